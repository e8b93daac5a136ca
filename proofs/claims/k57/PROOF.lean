import PyProof.Rows.All
import Wide.All
import OpenK.AllK
import Wide.FinOn
import HandS.ForMost
import HandS.Exc
import HandS.TryOnly
import HandS.ExcOwn
import HandS.WordsExc
import HandS.Deep
import HandS.Wide
import HandS.IsInst
import KE.KDictKeyed
import HandS.Lambda
import HandS.Style
import HandS.Conv
import HandS.Iter
import HandS.Zip
import KE.SortKeyed
import KE.DataMinMax
import KE.DataCmp
import HandS.TupAny
import HandS.TupSets
import KE.SortData
import HandS.SetFor
import HandS.Strs
import HandS.ExcIs
import KE.BitLaws
import HandS.TupMul
import HandS.SortKw
import HandS.DictTup
import KE.KDictWalk
import HandS.WideBits
import KE.IntBitsLaws
import HandS.ExcValue
import HandS.Rev
import HandS.RevRange
import KE.KDictPairs
import KE.KEqNest
import HandS.Flow
import HandS.Text
import KE.KDictCopyH
import HandS.ListEq
import HandS.Keys
import PyProof.LongRange
import HandS.Replace
import HandS.StrMore
import KE.KRevSl
import PyProof.DictMoreH
import KE.IntTextLaws
import PyProof.Draws
import PyProof.EnumMake
import PyProof.EqKinds
import PyProof.FactsAll.dict
import KE.SortKeyHeap
import HandS.EndTab
import HandS.HotCalls
import HandS.BoundDict
import KE.KDictLaws
import KE.KDictSum
import PySem.Challenge.RW_cellships_k57_whole_no_smaller_parts
set_option Elab.async false
set_option linter.all false
set_option maxRecDepth 100000
set_option autoImplicit false
set_option maxHeartbeats 4000000
namespace G
open PySem PySem.Spec PyProof.Rows L2

inductive D where
  | non | bl (b : Bool) | int (i : Int) | str (x : Str) | ty (n : String) | tup (ds : List D) | lst (ds : List D) | fix (ds : List D)
  | dicK (z : Bool) (es : List (Key × D)) | dicT (z : Bool) (es : List (List Key × D)) | dicN (z : Bool) (es : List (D × D))
  | exn (c : String) | inst (c : String) (fs : List (Str × D))
  | tab (a : Addr) (q : Str) | lnk (a : Addr) | atd (a : Addr) (d : D)
mutual
/-- the key of nested tuples of whole numbers that a value is -/
def nkD : D → Option NestedKey
  | .int i => some (.num i)
  | .tup ds => (nkDs ds).map .tup
  | _ => none
def nkDs : List D → Option (List NestedKey)
  | [] => some []
  | d :: ds => (nkD d).bind fun k => (nkDs ds).map (k :: ·)
end
/-- at a stands a dict whose keys are nested tuples of whole numbers: each key, the address of its tuple, its value -/
def NDict (a : Addr) (kvs : List (NestedKey × Addr × V)) : Heap → Prop := fun h => kvs.length ≤ sizeLine ∧ (a == sysModules) = false ∧ (∀ e ∈ kvs, e.1.depth ≤ 8) ∧ ∃ xs : List (NestedKey × Addr × Value),
  Paired (fun (p : NestedKey × Addr × V) (q : NestedKey × Addr × Value) => p.1 = q.1 ∧ p.2.1 = q.2.1 ∧ RelV p.2.2 q.2.2) kvs xs ∧
  ∃ o es ep, h.get? a = some o ∧ o.ExactDict ∧ o.data = .dict es ep ∧ (∀ (P : Program) (w : World), es.toList = xs.map (entryOfKey (nestedKind P w))) ∧ (xs.map (·.1)).Nodup
/-- a dict, locked for good or not -/
def frzIf (z : Bool) (o : Obj) (u : HO) : HO := if z = true then .frz o u else u

/-- the class of this name stands at C -/
def ClsAt (K : PySem.W.Frag) (c : String) (C : Addr) : Prop := PySem.W.nsIn K mainGlobals (Str.ofString c) = some (some (.ref C))
theorem ClsAt.uniq {K : PySem.W.Frag} {c : String} {C C' : Addr} (h : ClsAt K c C) (h' : ClsAt K c C') : C = C' := by
  unfold ClsAt at h h'
  rw [h] at h'
  injection h' with h'
  injection h' with h'
  injection h'
/-- at a stands an exception of the class at C -/
def ExcK (C a : Addr) : HO := .ext fun h => ∃ (oe : Obj) (vs : Array Value), h.get? a = some oe ∧ Zc (.ref C) none oe ∧ oe.data = .fields vs
mutual
inductive Rp (K : PySem.W.Frag) (F : Hp) : V → D → Prop
  | non : Rp K F .non .non
  | bl (b : Bool) : Rp K F (.bl b) (.bl b)
  | int (i : Int) : Rp K F (.int i) (.int i)
  | str (x : Str) : Rp K F (.str x) (.str x)
  | ty (n : String) : Rp K F (.ty n) (.ty n)
  | tup {a : Addr} {xs : List V} {ds : List D} : F a = some (.tup xs) → RpAll K F xs ds → Rp K F (.ref a) (.tup ds)
  | lst {a : Addr} {xs : List V} {ds : List D} : F a = some (.lst xs) → RpAll K F xs ds → Rp K F (.ref a) (.lst ds)
  | fix {a : Addr} {xs : List V} {ds : List D} : SqL K F a xs → RpAll K F xs ds → Rp K F (.ref a) (.fix ds)
  | dicK {z : Bool} {o : Obj} {a : Addr} {kvs : List (Key × V)} {es : List (Key × D)} : F a = some (frzIf z o (.dK kvs)) → kvs.map (·.1) = es.map (·.1) → RpAll K F (kvs.map (·.2)) (es.map (·.2)) → Rp K F (.ref a) (.dicK z es)
  | dicT {z : Bool} {o : Obj} {a : Addr} {kvs : List (List Key × V)} {es : List (List Key × D)} : F a = some (frzIf z o (.dT kvs)) → kvs.map (·.1) = es.map (·.1) → RpAll K F (kvs.map (·.2)) (es.map (·.2)) → Rp K F (.ref a) (.dicT z es)
  | dicN {z : Bool} {o : Obj} {a : Addr} {kvs : List (NestedKey × Addr × V)} {es : List (D × D)} : F a = some (frzIf z o (.ext (NDict a kvs))) → kvs.map (fun e => some e.1) = es.map (fun e => nkD e.1) → RpAll K F (kvs.map fun e => V.ref e.2.1) (es.map (·.1)) → RpAll K F (kvs.map fun e => e.2.2) (es.map (·.2)) → Rp K F (.ref a) (.dicN z es)
  | exn {a C : Addr} {c : String} : ClsAt K c C → F a = some (ExcK C a) → Rp K F (.ref a) (.exn c)
  | inst {a C dx : Addr} {c : String} {fs : List (Str × V)} {es : List (Str × D)} : ClsAt K c C → F a = some (.ins C dx fs) → fs.map (·.1) = es.map (·.1) → RpAll K F (fs.map (·.2)) (es.map (·.2)) → Rp K F (.ref a) (.inst c es)
  | tab {a : Addr} {q : Str} {ps : Array Value} : F a = some (.tbl ps) → Rp K F (.ref a) (.tab a q)
  | lnk {a : Addr} : Rp K F (.ref a) (.lnk a)
  | atd {a : Addr} {d : D} : Rp K F (.ref a) d → Rp K F (.ref a) (.atd a d)
inductive RpAll (K : PySem.W.Frag) (F : Hp) : List V → List D → Prop
  | nil : RpAll K F [] []
  | cons {v : V} {vs : List V} {d : D} {ds : List D} : Rp K F v d → RpAll K F vs ds → RpAll K F (v :: vs) (d :: ds)
end

theorem same_seqT {K : PySem.W.Frag} {H H' : Hp} {a : Addr} {xs : List V} (e : Same H H') (h : SqT K H a xs) : SqT K H' a xs := by
  rcases h with (h | ⟨o, h⟩) | h
  · exact .inl (.inl (e _ _ h))
  · exact .inl (.inr ⟨o, e _ _ h⟩)
  · exact .inr h
section
variable {K : PySem.W.Frag} {F F' H H' : Hp}
theorem Rp.mono (e : Same F F') {v : V} {d : D} (h : Rp K F v d) : Rp K F' v d := by
  refine Rp.rec (motive_1 := fun v d _ => Rp K F' v d) (motive_2 := fun vs ds _ => RpAll K F' vs ds) ?_ ?_ ?_ ?_ ?_ ?_ ?_ ?_ ?_ ?_ ?_ ?_ ?_ ?_ ?_ ?_ ?_ ?_ h
  · exact .non
  · exact fun b => .bl b
  · exact fun i => .int i
  · exact fun x => .str x
  · exact fun n => .ty n
  · exact fun h _ r => .tup (e _ _ h) r
  · exact fun h _ r => .lst (e _ _ h) r
  · exact fun h _ r => .fix (e.seq h) r
  · exact fun h k _ r => .dicK (e _ _ h) k r
  · exact fun h k _ r => .dicT (e _ _ h) k r
  · exact fun h k _ _ r q => .dicN (e _ _ h) k r q
  · exact fun k h => .exn k (e _ _ h)
  · exact fun c h k _ r => .inst c (e _ _ h) k r
  · exact fun h => .tab (e _ _ h)
  · exact .lnk
  · exact fun _ r => .atd r
  · exact .nil
  · exact fun _ _ r1 r2 => .cons r1 r2
theorem RpAll.mono (e : Same F F') : ∀ {vs : List V} {ds : List D}, RpAll K F vs ds → RpAll K F' vs ds
  | _, _, .nil => .nil
  | _, _, .cons a b => .cons (a.mono e) (b.mono e)
theorem RpAll.length : ∀ {vs : List V} {ds : List D}, RpAll K F vs ds → vs.length = ds.length
  | _, _, .nil => rfl
  | _, _, .cons _ b => by rw [List.length_cons, List.length_cons, b.length]
theorem RpAll.append : ∀ {vs ws : List V} {ds es : List D}, RpAll K F vs ds → RpAll K F ws es → RpAll K F (vs ++ ws) (ds ++ es)
  | _, _, _, _, .nil, h => h
  | _, _, _, _, .cons a b, h => .cons a (b.append h)
theorem RpAll.snoc {vs : List V} {ds : List D} {v : V} {d : D} (h : RpAll K F vs ds) (q : Rp K F v d) : RpAll K F (vs ++ [v]) (ds ++ [d]) := h.append (.cons q .nil)
theorem RpAll.get : ∀ {vs : List V} {ds : List D} {i : Nat} {d : D}, RpAll K F vs ds → ds[i]? = some d → ∃ v, vs[i]? = some v ∧ Rp K F v d
  | _, _, _, _, .nil, e => by simp at e
  | _, _, 0, _, .cons r _, e => by simp at e; subst e; exact ⟨_, rfl, r⟩
  | _, _, i + 1, d, .cons _ t, e => by
    obtain ⟨u, h1, h2⟩ := RpAll.get (i := i) (d := d) t (by simpa using e)
    exact ⟨u, by simpa using h1, h2⟩
theorem RpAll.set {v : V} {d : D} (r : Rp K F v d) : ∀ {xs : List V} {us : List D} (i : Nat), RpAll K F xs us → RpAll K F (xs.set i v) (us.set i d)
  | _, _, _, .nil => .nil
  | _, _, 0, .cons _ t => .cons r t
  | _, _, i + 1, .cons q t => .cons q (RpAll.set r i t)
theorem RpAll.reverse {vs : List V} {ds : List D} (h : RpAll K F vs ds) : RpAll K F vs.reverse ds.reverse := by
  induction vs generalizing ds with
  | nil => cases h; exact .nil
  | cons v vs ih => cases h with | cons a b => rw [List.reverse_cons, List.reverse_cons]; exact (ih b).snoc a
theorem RpAll.take : ∀ {vs : List V} {ds : List D} (n : Nat), RpAll K F vs ds → RpAll K F (vs.take n) (ds.take n)
  | _, _, 0, _ => .nil
  | _, _, _ + 1, .nil => .nil
  | _, _, n + 1, .cons a b => .cons a (b.take n)
theorem RpAll.drop : ∀ {vs : List V} {ds : List D} (n : Nat), RpAll K F vs ds → RpAll K F (vs.drop n) (ds.drop n)
  | _, _, 0, h => h
  | _, _, _ + 1, .nil => .nil
  | _, _, n + 1, .cons _ b => b.drop n
theorem RpAll.ints : ∀ {vs : List V} {ns : List Int}, RpAll K F vs (ns.map D.int) → vs = ns.map V.int
  | _, [], .nil => rfl
  | _, _ :: _, .cons (.int _) b => by rw [RpAll.ints b]; rfl
theorem RpAll.of_ints : ∀ (ns : List Int), RpAll K F (ns.map V.int) (ns.map D.int)
  | [] => .nil
  | n :: ns => .cons (.int n) (RpAll.of_ints ns)
end

/-- a slot holds nothing, a value, an object of its own, a thing that is only read here and stays as it is, or the exception at a -/
inductive Slot where
  | emp | val (d : D) | own (d : D) | rd (d : D) | adr (a : Addr)
abbrev Rho := List Slot
/-- what an owned object holds -/
inductive Ro (K : PySem.W.Frag) (F : Hp) : Addr → HO → D → Prop
  | lst {p : Addr} {xs : List V} {ds : List D} : RpAll K F xs ds → Ro K F p (.lst xs) (.lst ds)
  | dicK {p : Addr} {z : Bool} {o : Obj} {kvs : List (Key × V)} {es : List (Key × D)} : kvs.map (·.1) = es.map (·.1) → RpAll K F (kvs.map (·.2)) (es.map (·.2)) → Ro K F p (frzIf z o (.dK kvs)) (.dicK z es)
  | dicT {p : Addr} {z : Bool} {o : Obj} {kvs : List (List Key × V)} {es : List (List Key × D)} : kvs.map (·.1) = es.map (·.1) → RpAll K F (kvs.map (·.2)) (es.map (·.2)) → Ro K F p (frzIf z o (.dT kvs)) (.dicT z es)
  | dicN {p : Addr} {z : Bool} {o : Obj} {kvs : List (NestedKey × Addr × V)} {es : List (D × D)} : kvs.map (fun e => some e.1) = es.map (fun e => nkD e.1) → RpAll K F (kvs.map fun e => V.ref e.2.1) (es.map (·.1)) → RpAll K F (kvs.map fun e => e.2.2) (es.map (·.2)) → Ro K F p (frzIf z o (.ext (NDict p kvs))) (.dicN z es)
  | ins {p C dx : Addr} {c : String} {fs : List (Str × V)} {es : List (Str × D)} : ClsAt K c C → fs.map (·.1) = es.map (·.1) → RpAll K F (fs.map (·.2)) (es.map (·.2)) → Ro K F p (.ins C dx fs) (.inst c es)
  | tab {p : Addr} {q : Str} {ps : Array Value} : TriplesOk ps.toList → (∀ (pos : Pos) (cv : Value), codeAmong pos ps.toList = some cv → ∃ c, cv = .ref c ∧ F c = some (LamX.CodeO c q)) → Ro K F p (.tbl ps) (.tab p q)
  | atd {p : Addr} {o : HO} {d : D} : Ro K F p o d → Ro K F p o (.atd p d)
theorem Ro.mono {K : PySem.W.Frag} {F F' : Hp} (e : Same F F') {p : Addr} {o : HO} {d : D} : Ro K F p o d → Ro K F' p o d
  | .lst r => .lst (r.mono e)
  | .dicK k r => .dicK k (r.mono e)
  | .dicT k r => .dicT k (r.mono e)
  | .dicN k r q => .dicN k (r.mono e) (q.mono e)
  | .ins c k r => .ins c k (r.mono e)
  | .tab t k => .tab t fun pos cv h => let ⟨c, e1, e2⟩ := k pos cv h; ⟨c, e1, e _ _ e2⟩
  | .atd r => .atd (r.mono e)

/-- not a tuple: a tuple that is tracked may become known at any time -/
def NTup (o : HO) : Prop := ∀ xs, o ≠ .tup xs
theorem nt_lst {xs : List V} : NTup (.lst xs) := fun _ h => by cases h
theorem Ro.nt {K : PySem.W.Frag} {F : Hp} {p : Addr} {o : HO} {d : D} : Ro K F p o d → NTup o
  | .lst _ => fun _ h => nomatch h
  | .dicK (z := z) _ _ => fun xs h => by cases z <;> exact nomatch h
  | .dicT (z := z) _ _ => fun xs h => by cases z <;> exact nomatch h
  | .dicN (z := z) _ _ _ => fun xs h => by cases z <;> exact nomatch h
  | .ins _ _ _ => fun _ h => nomatch h
  | .tab _ _ => fun _ h => nomatch h
  | .atd r => r.nt

/-- what can be read: a value, or an object that is not frozen -/
def nofx : D → Bool
  | .fix _ => false
  | .lnk _ => false
  | .atd _ d => nofx d
  | _ => true
theorem rp_at {K : PySem.W.Frag} {F : Hp} {p : Addr} : ∀ {d : D}, Rp K F (.ref p) d → nofx d = true → F p = none → False := by
  intro d h n e
  cases h with
  | tup h _ => rw [e] at h; cases h
  | lst h _ => rw [e] at h; cases h
  | fix _ _ => cases n
  | dicK h _ _ => rw [e] at h; cases h
  | dicT h _ _ => rw [e] at h; cases h
  | dicN h _ _ _ => rw [e] at h; cases h
  | exn _ h => rw [e] at h; cases h
  | inst _ h _ _ => rw [e] at h; cases h
  | tab h => rw [e] at h; cases h
  | lnk => cases n
  | atd h => exact rp_at h n e
inductive Ra (K : PySem.W.Frag) (F H : Hp) : V → D → Prop
  | val {v : V} {d : D} : Rp K F v d → nofx d = true → Ra K F H v d
  | own {p : Addr} {o : HO} {d : D} : F p = none → H p = some o → Ro K F p o d → Ra K F H (.ref p) d
inductive SRel (K : PySem.W.Frag) (F H : Hp) : Slot → Option V → Prop
  | emp {o : Option V} : SRel K F H .emp o
  | val {v : V} {d : D} : Rp K F v d → SRel K F H (.val d) (some v)
  | own {p : Addr} {o : HO} {d : D} : F p = none → H p = some o → Ro K F p o d → SRel K F H (.own d) (some (.ref p))
  | rd {v : V} {d : D} : Ra K F H v d → SRel K F H (.rd d) (some v)
  | adr {a : Addr} : SRel K F H (.adr a) (some (.ref a))
theorem Ra.step {K : PySem.W.Frag} {F H F' H' : Hp} {v : V} {d : D} (ex : Same F F') (k : ∀ p u, NTup u → v = .ref p → H p = some u → F p = none → H' p = some u ∧ F' p = none) : Ra K F H v d → Ra K F' H' v d
  | .val r n => .val (r.mono ex) n
  | .own h1 h2 h3 => .own (k _ _ h3.nt rfl h2 h1).2 (k _ _ h3.nt rfl h2 h1).1 (h3.mono ex)
theorem SRel.step {K : PySem.W.Frag} {F H F' H' : Hp} {s : Slot} {o : Option V} (ex : Same F F') (k : ∀ p u, NTup u → o = some (.ref p) → H p = some u → F p = none → H' p = some u ∧ F' p = none) : SRel K F H s o → SRel K F' H' s o
  | .emp => .emp
  | .val r => .val (r.mono ex)
  | .own h1 h2 h3 => .own (k _ _ h3.nt rfl h2 h1).2 (k _ _ h3.nt rfl h2 h1).1 (h3.mono ex)
  | .rd r => .rd (r.step ex fun p u n e => k p u n (by rw [e]))
  | .adr => .adr
def Own (ρ : Rho) (σ : L2.St) (p : Addr) : Prop := ∃ (i : Nat) (d : D), ρ[i]? = some (Slot.own d) ∧ σ[i]? = some (some (V.ref p))
structure Rel (K : PySem.W.Frag) (F H : Hp) (ρ : Rho) (σ : L2.St) : Prop where
  ex : Same F H
  len : ρ.length = σ.length
  at' : ∀ (i : Nat) (s : Slot) (o : Option V), ρ[i]? = some s → σ[i]? = some o → SRel K F H s o
  dis : ∀ (i j : Nat) (d e : D) (p : Addr), ρ[i]? = some (Slot.own d) → ρ[j]? = some (Slot.own e) → σ[i]? = some (some (V.ref p)) → σ[j]? = some (some (V.ref p)) → i = j
  rdis : ∀ (i : Nat) (d : D) (p : Addr), ρ[i]? = some (Slot.rd d) → σ[i]? = some (some (V.ref p)) → ¬ Own ρ σ p
structure Go (K : PySem.W.Frag) (ρ : Rho) (σ : L2.St) (F H : Hp) (ρ' : Rho) (σ' : L2.St) (F' H' : Hp) : Prop where
  rel : Rel K F' H' ρ' σ'
  ex : Same F F'
  keep : ∀ a o, H a = some o → F a = none → ¬ Own ρ σ a → H' a = some o ∧ (NTup o → F' a = none)
  own : ∀ p, Own ρ' σ' p → Own ρ σ p ∨ H p = none
  low : σ'[0]? = σ[0]?
  lowO : ∀ d : D, ρ[0]? = some (Slot.own d) → ∃ d' : D, ρ'[0]? = some (Slot.own d')
  rdb : ∀ (i : Nat) (d : D), ρ'[i]? = some (Slot.rd d) → ρ[i]? = some (Slot.rd d) ∧ σ'[i]? = σ[i]?
section
variable {K : PySem.W.Frag} {F H F1 H1 F2 H2 : Hp} {ρ ρ1 ρ2 : Rho} {σ σ1 σ2 : L2.St}
theorem Go.refl (r : Rel K F H ρ σ) : Go K ρ σ F H ρ σ F H := ⟨r, Same.refl F, fun _ _ h1 h2 _ => ⟨h1, fun _ => h2⟩, fun _ h => .inl h, rfl, fun d h => ⟨d, h⟩, fun _ _ h => ⟨h, rfl⟩⟩
theorem Go.trans (r : Rel K F H ρ σ) (a : Go K ρ σ F H ρ1 σ1 F1 H1) (b : Go K ρ1 σ1 F1 H1 ρ2 σ2 F2 H2) : Go K ρ σ F H ρ2 σ2 F2 H2 where
  rel := b.rel
  ex := a.ex.trans b.ex
  keep := fun p o h1 h2 h3 => by
    obtain ⟨q1, q2⟩ := a.keep p o h1 h2 h3
    have no : ¬ Own ρ1 σ1 p := fun z => by
      rcases a.own p z with z | z
      · exact h3 z
      · rw [h1] at z; cases z
    cases qf : F1 p with
    | none =>
      obtain ⟨k1, k2⟩ := b.keep p o q1 qf no
      exact ⟨k1, k2⟩
    | some u =>
      have e1 := a.rel.ex p u qf
      rw [q1] at e1
      cases e1
      exact ⟨b.rel.ex p o (b.ex p o qf), fun n => by rw [q2 n] at qf; cases qf⟩
  own := fun p h => by
    rcases b.own p h with h | h
    · exact a.own p h
    · cases q : H p with
      | none => exact .inr rfl
      | some o =>
        refine .inl ?_
        cases qf : F p with
        | some u =>
          have := (a.rel.ex) p u (a.ex p u qf)
          rw [h] at this; cases this
        | none =>
          refine Classical.byContradiction fun z => ?_
          have := (a.keep p o q qf z).1
          rw [h] at this; cases this
  low := b.low.trans a.low
  lowO := fun d h => by
    obtain ⟨d1, h1⟩ := a.lowO d h
    exact b.lowO d1 h1
  rdb := fun i d h => by
    obtain ⟨h1, h2⟩ := b.rdb i d h
    obtain ⟨h3, h4⟩ := a.rdb i d h1
    exact ⟨h3, h2.trans h4⟩
/-- all that was known is as it was -/
theorem Go.sameH (r : Rel K F H ρ σ) (a : Go K ρ σ F H ρ1 σ1 F1 H1) {p : Addr} {o : HO} (h : H p = some o) (hn : ¬ Own ρ σ p) : H1 p = some o := by
  cases qf : F p with
  | some u =>
    have e1 := r.ex p u qf
    rw [h] at e1
    cases e1
    exact a.rel.ex p o (a.ex p o qf)
  | none => exact (a.keep p o h qf hn).1
theorem Rel.val {i : Nat} {d : D} (r : Rel K F H ρ σ) (h : ρ[i]? = some (.val d)) : ∃ v, σ[i]? = some (some v) ∧ Rp K F v d := by
  have hi : i < ρ.length := by
    cases Nat.lt_or_ge i ρ.length with
    | inl z => exact z
    | inr z => rw [List.getElem?_eq_none z] at h; cases h
  have hs : i < σ.length := r.len ▸ hi
  have e := r.at' i _ _ h (List.getElem?_eq_getElem hs)
  rw [List.getElem?_eq_getElem hs]
  cases q : σ[i] with
  | none => rw [q] at e; cases e
  | some v => rw [q] at e; cases e with | val e => exact ⟨v, rfl, e⟩
theorem Rel.own {i : Nat} {d : D} (r : Rel K F H ρ σ) (h : ρ[i]? = some (.own d)) : ∃ p o, σ[i]? = some (some (.ref p)) ∧ F p = none ∧ H p = some o ∧ Ro K F p o d := by
  have hi : i < ρ.length := by
    cases Nat.lt_or_ge i ρ.length with
    | inl z => exact z
    | inr z => rw [List.getElem?_eq_none z] at h; cases h
  have hs : i < σ.length := r.len ▸ hi
  have e := r.at' i _ _ h (List.getElem?_eq_getElem hs)
  rw [List.getElem?_eq_getElem hs]
  cases q : σ[i] with
  | none => rw [q] at e; cases e
  | some v => rw [q] at e; cases e with | own e1 e2 e3 => exact ⟨_, _, rfl, e1, e2, e3⟩
end

/-- what slot i holds can be read -/
def rdD (i : Nat) (ρ : Rho) : Option D := match ρ[i]? with
  | some (.own d) => some d
  | some (.rd d) => some d
  | _ => none
theorem Rel.rd {K : PySem.W.Frag} {F H : Hp} {ρ : Rho} {σ : L2.St} {i : Nat} {d : D} (r : Rel K F H ρ σ) (h : rdD i ρ = some d) : ∃ v, σ[i]? = some (some v) ∧ Ra K F H v d := by
  unfold rdD at h
  have look : ∀ s, ρ[i]? = some s → ∃ o, σ[i]? = some o ∧ SRel K F H s o := fun s hs => by
    have hi : i < ρ.length := by
      cases Nat.lt_or_ge i ρ.length with
      | inl z => exact z
      | inr z => rw [List.getElem?_eq_none z] at hs; cases hs
    have hs2 : i < σ.length := r.len ▸ hi
    exact ⟨_, List.getElem?_eq_getElem hs2, r.at' i _ _ hs (List.getElem?_eq_getElem hs2)⟩
  split at h
  · rename_i e
    cases h
    obtain ⟨o, h1, h2⟩ := look _ e
    cases h2 with
    | own a b c => exact ⟨_, h1, .own a b c⟩
  · rename_i e
    cases h
    obtain ⟨o, h1, h2⟩ := look _ e
    cases h2 with
    | rd a => exact ⟨_, h1, a⟩
  · cases h

structure Gr (F H F' H' : Hp) : Prop where
  ex : Same F F'
  exH : Same H H'
  sub : Same F' H'
  keep : ∀ a o, NTup o → H a = some o → F a = none → F' a = none
section
variable {K : PySem.W.Frag} {F H F1 H1 F2 H2 : Hp} {ρ : Rho} {σ : L2.St}
theorem Gr.refl (e : Same F H) : Gr F H F H := ⟨Same.refl F, Same.refl H, e, fun _ _ _ _ h => h⟩
theorem Gr.trans (a : Gr F H F1 H1) (b : Gr F1 H1 F2 H2) : Gr F H F2 H2 := ⟨a.ex.trans b.ex, a.exH.trans b.exH, b.sub, fun p o n h1 h2 => b.keep p o n (a.exH p o h1) (a.keep p o n h1 h2)⟩
theorem SRel.gr {s : Slot} {o : Option V} (g : Gr F H F1 H1) (h : SRel K F H s o) : SRel K F1 H1 s o := h.step g.ex fun p u n _ h1 h2 => ⟨g.exH p u h1, g.keep p u n h1 h2⟩
theorem Ra.gr {v : V} {d : D} (g : Gr F H F1 H1) (h : Ra K F H v d) : Ra K F1 H1 v d := h.step g.ex fun p u n _ h1 h2 => ⟨g.exH p u h1, g.keep p u n h1 h2⟩
theorem Rel.gr (g : Gr F H F1 H1) (r : Rel K F H ρ σ) : Rel K F1 H1 ρ σ := ⟨g.sub, r.len, fun i s o h1 h2 => (r.at' i s o h1 h2).gr g, r.dis, r.rdis⟩
theorem Gr.go (g : Gr F H F1 H1) (r : Rel K F H ρ σ) : Go K ρ σ F H ρ σ F1 H1 := ⟨r.gr g, g.ex, fun p o h1 h2 _ => ⟨g.exH p o h1, fun n => g.keep p o n h1 h2⟩, fun _ h => .inl h, rfl, fun d h => ⟨d, h⟩, fun _ _ h => ⟨h, rfl⟩⟩
/-- a new frozen object -/
theorem Gr.new {p : Addr} {o : HO} (e : Same F H) (hp : H p = none) : Gr F H (upd F p o) (upd H p o) := by
  have hf : F p = none := e.free hp
  refine ⟨fun b u h => by rw [upd_ne (ne_of_none h hf)]; exact h, fun b u h => by rw [upd_ne (ne_of_none h hp)]; exact h, fun b u h => ?_, fun a u _ h1 h2 => by rw [upd_ne (ne_of_none h1 hp)]; exact h2⟩
  by_cases hb : b = p
  · subst hb; rw [upd_same] at h ⊢; exact h
  · rw [upd_ne hb] at h ⊢; exact e b u h
/-- a new object, not frozen -/
theorem Gr.newO {p : Addr} {o : HO} (e : Same F H) (hp : H p = none) : Gr F H F (upd H p o) := by
  refine ⟨Same.refl F, fun b u h => by rw [upd_ne (ne_of_none h hp)]; exact h, fun b u h => by rw [upd_ne (ne_of_none (e b u h) hp)]; exact e b u h, fun a u _ h1 h2 => h2⟩
end

inductive Res (α : Type) where
  | ok (a : α) (ρ : Rho) | exc (c : String) (ρ : Rho) | bad
def Res.bind {α β : Type} (r : Res α) (f : α → Rho → Res β) : Res β := match r with
  | .ok a ρ => f a ρ
  | .exc c ρ => .exc c ρ
  | .bad => .bad
abbrev XV := Rho → Res D
abbrev XT := Rho → Res Bool
abbrev XA := Rho → Res (List D)
/-- the wish of exceptions -/
abbrev EW := String → L2.St → Hp → Prop

section
variable (K : PySem.W.Frag) (E : EW)
/-- what is asked of an expression that does t -/
def Pend {α : Type} (t : Rho → Res α) (ρ : Rho) (σ : L2.St) (F H : Hp) (Q : α → Rho → Hp → Hp → Prop) : Prop := match t ρ with
  | .ok a ρ' => ∀ F' H', Go K ρ σ F H ρ' σ F' H' → Q a ρ' F' H'
  | .exc c ρ' => ∀ F' H', Go K ρ σ F H ρ' σ F' H' → E c σ H'
  | .bad => False
def lE (t : XV) : TE := fun σ H Q => ∃ F ρ, Rel K F H ρ σ ∧ Pend K E t ρ σ F H fun d _ F' H' => ∀ v, Rp K F' v d → Q v H'
def lT (t : XT) : TT := fun σ H Q => ∃ F ρ, Rel K F H ρ σ ∧ Pend K E t ρ σ F H fun b _ _ H' => Q b H'
def lA (t : XA) : TA := fun σ H Q => ∃ F ρ, Rel K F H ρ σ ∧ Pend K E t ρ σ F H fun ds _ F' H' => ∀ vs, RpAll K F' vs ds → Q vs H'
/-- a new object: it is known, not frozen, owned by none -/
def lN (t : XV) : TE := fun σ H Q => ∃ F ρ, Rel K F H ρ σ ∧ Pend K E t ρ σ F H fun d ρ' F' H' => ∀ p o, F' p = none → H' p = some o → Ro K F' p o d → ¬ Own ρ' σ p → (Own ρ σ p ∨ H p = none) → Q (.ref p) H'
end
section
variable {K : PySem.W.Frag} {E : EW} {σ : L2.St} {F H : Hp} {ρ : Rho}
theorem Pend.mono {α : Type} {t : Rho → Res α} {Q Q' : α → Rho → Hp → Hp → Prop} (h : Pend K E t ρ σ F H Q) (k : ∀ a ρ' F' H', Go K ρ σ F H ρ' σ F' H' → Q a ρ' F' H' → Q' a ρ' F' H') : Pend K E t ρ σ F H Q' := by
  unfold Pend at h ⊢
  split <;> rename_i e <;> rw [e] at h
  · exact fun F' H' g => k _ _ _ _ g (h F' H' g)
  · exact h
  · exact h
/-- one after another -/
theorem Pend.bind {α β : Type} {t : Rho → Res α} {f : α → Rho → Res β} {Q : β → Rho → Hp → Hp → Prop} (r : Rel K F H ρ σ) (h : Pend K E (fun ρ => (t ρ).bind f) ρ σ F H Q) :
    Pend K E t ρ σ F H fun a ρ1 F1 H1 => Pend K E (f a) ρ1 σ F1 H1 Q := by
  unfold Pend at h ⊢
  split <;> rename_i e <;> simp only [e, Res.bind] at h
  · intro F1 H1 g
    split <;> rename_i e2 <;> rw [e2] at h
    · exact fun F2 H2 g2 => h F2 H2 (g.trans r g2)
    · exact fun F2 H2 g2 => h F2 H2 (g.trans r g2)
    · exact h
  · exact h
theorem Pend.ok {α : Type} {a : α} {ρ' : Rho} {t : Rho → Res α} {Q : α → Rho → Hp → Hp → Prop} (h : Pend K E t ρ σ F H Q) (e : t ρ = .ok a ρ') : ∀ F' H', Go K ρ σ F H ρ' σ F' H' → Q a ρ' F' H' := by
  unfold Pend at h
  rw [e] at h
  exact h
end
end G


namespace G
open PySem PySem.Spec PyProof.Rows L2

section
variable {X : Cx}
theorem pe_imp {e : Expr} {t t' : TE} (h : PE X e t) (k : ∀ σ H Q, t' σ H Q → t σ H Q) : PE X e t' := ⟨fun pins s σ H Q I q => h.run pins s σ H Q I (k σ H Q q)⟩
theorem pt_imp {e : Expr} {t t' : TT} (h : PT X e t) (k : ∀ σ H Q, t' σ H Q → t σ H Q) : PT X e t' := ⟨fun pins s σ H Q I q => h.run pins s σ H Q I (k σ H Q q)⟩
theorem pa_imp {e : List Expr} {t t' : TA} (h : PA X e t) (k : ∀ σ H Q, t' σ H Q → t σ H Q) : PA X e t' := ⟨fun pos pins s σ H Q I q => h.run pos pins s σ H Q I (k σ H Q q)⟩
theorem ps_imp {e : Stmt} {t t' : TS} (h : PS X e t) (k : ∀ D σ H, t' D σ H → t D σ H) : PS X e t' := ⟨fun pins s σ H D I q => h.run pins s σ H D I (k D σ H q)⟩
theorem pss_imp {e : List Stmt} {t t' : TS} (h : PSs X e t) (k : ∀ D σ H, t' D σ H → t D σ H) : PSs X e t' := ⟨fun pins s σ H D I q => h.run pins s σ H D I (k D σ H q)⟩
end
section
variable {K : PySem.W.Frag} {E : EW} {σ : L2.St} {F H : Hp} {ρ : Rho}
theorem ro_nofx : ∀ {p : Addr} {o : HO} {d : D}, Ro K F p o d → nofx d = true
  | _, _, _, .lst _ => rfl
  | _, _, _, .dicK _ _ => rfl
  | _, _, _, .dicT _ _ => rfl
  | _, _, _, .dicN _ _ _ => rfl
  | _, _, _, .ins _ _ _ => rfl
  | _, _, _, .tab _ _ => rfl
  | _, _, .atd _ d, .atd r => by have := ro_nofx r; exact this
theorem ro_rp : ∀ {p : Addr} {o : HO} {d : D}, F p = none → Ro K F p o d → Rp K (upd F p o) (.ref p) d
  | p, o, d, hf, ro => by
    have hs : Same F (upd F p o) := fun b u q => by rw [upd_ne (ne_of_none q hf)]; exact q
    cases ro with
    | lst r => exact .lst upd_same (r.mono hs)
    | dicK k r => exact .dicK upd_same k (r.mono hs)
    | dicT k r => exact .dicT upd_same k (r.mono hs)
    | dicN k r q2 => exact .dicN upd_same k (r.mono hs) (q2.mono hs)
    | ins c k r => exact .inst c upd_same k (r.mono hs)
    | tab _ _ => exact .tab upd_same
    | atd r => exact .atd (ro_rp hf r)
/-- a new object, taken as it is -/
theorem lE_of_lN {t : XV} {Q : VK} (h : lE K E t σ H Q) : lN K E t σ H Q := by
  obtain ⟨F, ρ, r, p⟩ := h
  refine ⟨F, ρ, r, ?_⟩
  unfold Pend at p ⊢
  split <;> rename_i e <;> rw [e] at p
  · rename_i d ρ'
    intro F1 H1 g a o hf hh ro hn hw
    refine p (upd F1 a o) H1 ?_ (.ref a) ?_
    · refine ⟨⟨fun b u q => ?_, g.rel.len, fun i s v h1 h2 => ?_, g.rel.dis, g.rel.rdis⟩, fun b u q => ?_, fun b u h1 h2 h3 => ?_, g.own, g.low, g.lowO, g.rdb⟩
      · by_cases hb : b = a
        · subst hb; rw [upd_same] at q; rw [hh]; exact q
        · rw [upd_ne hb] at q; exact g.rel.ex b u q
      · have hs : Same F1 (upd F1 a o) := fun b u q => by rw [upd_ne (ne_of_none q hf)]; exact q
        have z := g.rel.at' i s v h1 h2
        cases z with
        | emp => exact .emp
        | adr => exact .adr
        | val rp => exact .val (rp.mono hs)
        | own z1 z2 z3 =>
          refine .own ?_ z2 (z3.mono hs)
          rw [upd_ne]
          · exact z1
          · rintro rfl
            exact hn ⟨i, _, h1, h2⟩
        | rd ra =>
          cases ra with
          | val rp nf => exact .rd (.val (rp.mono hs) nf)
          | @own p u _ z1 z2 z3 =>
            by_cases hp : p = a
            · subst hp
              rw [hh] at z2
              cases z2
              exact .rd (.val (ro_rp hf z3) (ro_nofx z3))
            · exact .rd (.own (by rw [upd_ne hp]; exact z1) z2 (z3.mono hs))
      · have q' := g.ex b u q
        rw [upd_ne (ne_of_none q' hf)]
        exact q'
      · obtain ⟨q1, q2⟩ := g.keep b u h1 h2 h3
        refine ⟨q1, ?_⟩
        rw [upd_ne]
        · exact q2
        · rintro rfl
          rcases hw with hw | hw
          · exact h3 hw
          · rw [h1] at hw; cases hw
    · exact ro_rp hf ro
  · exact p
  · exact p
end
section
variable {X : Cx} {E : EW} {a b : Expr} {pos : Pos} {ta tb : XV}
theorem of_new {e : Expr} {t : XV} (h : PE X e (lN X.K E t)) : PE X e (lE X.K E t) := pe_imp h fun _ _ _ q => lE_of_lN q

def xVar (i : Nat) : XV := fun ρ => match ρ[i]? with
  | some (.val d) => .ok d ρ
  | _ => .bad
def xC (d : D) : XV := fun ρ => .ok d ρ
/-- an owned name, given away -/
def xTake (i : Nat) : XV := fun ρ => match ρ[i]? with
  | some (.own d) => .ok d (ρ.set i .emp)
  | _ => .bad
theorem xe_var (i : Nat) {x : Str} (hN : X.N[i]? = some x := by rfl) (hv : Vis X.env.scope x := by first | exact Or.inl rfl | exact Or.inr (Or.inl rfl) | exact Or.inr (Or.inr rfl)) (hd : (x == ("__debug__" : Str)) = false := by decide)
    (hcd : (x == ("__classdict__" : Str)) = false := by decide) : PE X (.Name x pos) (lE X.K E (xVar i)) := by
  refine pe_imp (pe_var hN hv hd hcd) fun σ H Q h => ?_
  obtain ⟨F, ρ, r, p⟩ := h
  unfold Pend xVar at p
  split at p <;> rename_i e
  · split at e
    · rename_i q
      cases e
      obtain ⟨v, h1, h2⟩ := r.val q
      exact ⟨v, h1, p F H (Go.refl r) v h2⟩
    · cases e
  · split at e <;> cases e
  · exact p.elim
theorem xe_const {e : Expr} {v : V} {d : D} (h : PE X e (tC v)) (hr : ∀ F, Rp X.K F v d) : PE X e (lE X.K E (xC d)) := by
  refine pe_imp h fun σ H Q h => ?_
  obtain ⟨F, ρ, r, p⟩ := h
  exact p F H (Go.refl r) v (hr F)
theorem xe_int {i : Int} {j : Nat} : PE X (.Constant (.int i) j pos) (lE X.K E (xC (.int i))) := xe_const pe_int fun _ => .int i
theorem xe_bl {i : Bool} {j : Nat} : PE X (.Constant (.bool i) j pos) (lE X.K E (xC (.bl i))) := xe_const pe_bl fun _ => .bl i
theorem xn_take (i : Nat) {x : Str} (h0 : i ≠ 0 := by decide) (hN : X.N[i]? = some x := by rfl) (hv : Vis X.env.scope x := by first | exact Or.inl rfl | exact Or.inr (Or.inl rfl) | exact Or.inr (Or.inr rfl)) (hd : (x == ("__debug__" : Str)) = false := by decide)
    (hcd : (x == ("__classdict__" : Str)) = false := by decide) : PE X (.Name x pos) (lN X.K E (xTake i)) := by
  refine pe_imp (pe_var hN hv hd hcd) fun σ H Q h => ?_
  obtain ⟨F, ρ, r, p⟩ := h
  unfold Pend xTake at p
  split at p <;> rename_i e
  · split at e
    · rename_i d q
      injection e with e1 e2
      subst e1 e2
      obtain ⟨b, o, h1, h2, h3, h4⟩ := r.own q
      have hi : i < ρ.length := by
        cases Nat.lt_or_ge i ρ.length with
        | inl z => exact z
        | inr z => rw [List.getElem?_eq_none z] at q; cases q
      have sub : ∀ p, Own (ρ.set i .emp) σ p → Own ρ σ p ∧ (σ[i]? = some (some (V.ref p)) → False) := by
        rintro c ⟨j, e, z1, z2⟩
        have hj : i ≠ j := by
          rintro rfl
          rw [List.getElem?_set_self hi] at z1; cases z1
        rw [List.getElem?_set_ne hj] at z1
        exact ⟨⟨j, e, z1, z2⟩, fun z => hj (r.dis i j d e c q z1 z z2)⟩
      have rdn : ∀ (j : Nat) (d : D), (ρ.set i .emp)[j]? = some (.rd d) → ρ[j]? = some (.rd d) := fun j d z => by
        by_cases hj : i = j
        · subst hj
          rw [List.getElem?_set_self hi] at z; cases z
        · rw [List.getElem?_set_ne hj] at z; exact z
      refine ⟨.ref b, h1, p F H ⟨⟨r.ex, by rw [List.length_set]; exact r.len, fun j s v z1 z2 => ?_, fun j k d1 d2 c z1 z2 z3 z4 => ?_, fun j d c z1 z2 z3 => r.rdis j d c (rdn j d z1) z2 (sub c z3).1⟩, Same.refl F, fun _ _ q1 q2 _ => ⟨q1, fun _ => q2⟩, fun c z => .inl (sub c z).1, rfl, fun d z => ⟨d, by rw [List.getElem?_set_ne h0]; exact z⟩, fun j d z => ⟨rdn j d z, rfl⟩⟩ b o h2 h3 h4 (fun z => (sub b z).2 h1) (.inl ⟨i, d, q, h1⟩)⟩
      · by_cases hj : i = j
        · subst hj
          rw [List.getElem?_set_self hi] at z1
          cases z1
          exact .emp
        · rw [List.getElem?_set_ne hj] at z1
          exact r.at' j s v z1 z2
      · have g1 : i ≠ j := by
          rintro rfl
          rw [List.getElem?_set_self hi] at z1; cases z1
        have g2 : i ≠ k := by
          rintro rfl
          rw [List.getElem?_set_self hi] at z2; cases z2
        rw [List.getElem?_set_ne g1] at z1
        rw [List.getElem?_set_ne g2] at z2
        exact r.dis j k d1 d2 c z1 z2 z3 z4
    · cases e
  · split at e <;> cases e
  · exact p.elim

/-- what comes out: a value, or a new object -/
def OutV (K : PySem.W.Frag) (F H : Hp) (d : D) (Q : VK) : Prop := ∀ v F' H', Gr F H F' H' → Rp K F' v d → Q v H'
def OutN (K : PySem.W.Frag) (F H : Hp) (d : D) (Q : VK) : Prop := ∀ p o F' H', Gr F H F' H' → H p = none → F' p = none → H' p = some o → Ro K F' p o d → Q (.ref p) H'
theorem OutV.n {K : PySem.W.Frag} {F H : Hp} {d : D} {Q : VK} (h : OutV K F H d Q) : OutN K F H d Q := fun p o F' H' g hp hf hh ro => by
  have hs : Same F' (upd F' p o) := fun b u q => by rw [upd_ne (ne_of_none q hf)]; exact q
  refine h (.ref p) (upd F' p o) H' ⟨g.ex.trans hs, g.exH, fun b u q => ?_, fun b u hn h1 h2 => ?_⟩ ?_
  · by_cases hb : b = p
    · subst hb; rw [upd_same] at q; rw [hh]; exact q
    · rw [upd_ne hb] at q; exact g.sub b u q
  · rw [upd_ne (ne_of_none h1 hp)]; exact g.keep b u hn h1 h2
  · exact ro_rp hf ro
theorem OutV.here {K : PySem.W.Frag} {F H : Hp} {d : D} {Q : VK} {v : V} (h : OutV K F H d Q) (e : Same F H) (r : Rp K F v d) : Q v H := h v F H (Gr.refl e) r
theorem OutV.new {K : PySem.W.Frag} {F H : Hp} {d : D} {Q : VK} {p : Addr} {o : HO} (h : OutV K F H d Q) (e : Same F H) (hp : H p = none) (r : Rp K (upd F p o) (.ref p) d) : Q (.ref p) (upd H p o) := h _ _ _ (Gr.new e hp) r
theorem OutN.new {K : PySem.W.Frag} {F H : Hp} {d : D} {Q : VK} {p : Addr} {o : HO} (h : OutN K F H d Q) (e : Same F H) (hp : H p = none) (r : Ro K F p o d) : Q (.ref p) (upd H p o) := h p o _ _ (Gr.newO e hp) hp (e.free hp) upd_same r

def Imp1 (K : PySem.W.Frag) (f : D → Option D) (r : V → Hp → VK → Prop) : Prop := ∀ F H v x d Q, Same F H → Rp K F v x → f x = some d → OutV K F H d Q → r v H Q
def Imp2 (K : PySem.W.Frag) (f : D → D → Option D) (r : R2) : Prop := ∀ F H v w x y d Q, Same F H → Rp K F v x → Rp K F w y → f x y = some d → OutV K F H d Q → r v w H Q
def ImpL (K : PySem.W.Frag) (f : List D → Option D) (r : List V → Hp → VK → Prop) : Prop := ∀ F H vs ds d Q, Same F H → RpAll K F vs ds → f ds = some d → OutV K F H d Q → r vs H Q
def ImpLN (K : PySem.W.Frag) (f : List D → Option D) (r : List V → Hp → VK → Prop) : Prop := ∀ F H vs ds d Q, Same F H → RpAll K F vs ds → f ds = some d → OutN K F H d Q → r vs H Q
def lift {α β : Type} (f : α → Option β) : α → Rho → Res β := fun a ρ => match f a with
  | some b => .ok b ρ
  | none => .bad
def xOp1 (f : D → Option D) (ta : XV) : XV := fun ρ => (ta ρ).bind (lift f)
def xOp2 (f : D → D → Option D) (ta tb : XV) : XV := fun ρ => (ta ρ).bind fun x ρ1 => (tb ρ1).bind (lift (f x))
def xOpL (f : List D → Option D) (ta : XA) : XV := fun ρ => (ta ρ).bind (lift f)
theorem Pend.lift {α β : Type} {K : PySem.W.Frag} {σ : L2.St} {F H : Hp} {ρ : Rho} {f : α → Option β} {x : α} {Q : β → Rho → Hp → Hp → Prop} (h : Pend K E (lift f x) ρ σ F H Q) : ∃ d, f x = some d ∧ ∀ F' H', Go K ρ σ F H ρ σ F' H' → Q d ρ F' H' := by
  unfold Pend G.lift at h
  cases q : f x with
  | none => rw [q] at h; exact h.elim
  | some d => rw [q] at h; exact ⟨d, rfl, h⟩
/-- the last step's end -/
theorem outV_of {K : PySem.W.Frag} {σ : L2.St} {F H : Hp} {ρ : Rho} {d : D} {Q : VK} (r : Rel K F H ρ σ) (h : ∀ F' H', Go K ρ σ F H ρ σ F' H' → ∀ v, Rp K F' v d → Q v H') : OutV K F H d Q := fun v F' H' g rv => h F' H' (g.go r) v rv
theorem not_own_new {K : PySem.W.Frag} {σ : L2.St} {F H : Hp} {ρ : Rho} {p : Addr} (r : Rel K F H ρ σ) (hp : H p = none) : ¬ Own ρ σ p := fun ⟨i, d, h1, h2⟩ => by
  obtain ⟨b, o, e1, _, e3, _⟩ := r.own h1
  rw [h2] at e1
  cases e1
  rw [hp] at e3; cases e3
theorem outN_of {K : PySem.W.Frag} {σ : L2.St} {F0 H0 F H : Hp} {ρ0 ρ : Rho} {d : D} {Q : VK} (r0 : Rel K F0 H0 ρ0 σ) (g0 : Go K ρ0 σ F0 H0 ρ σ F H) (h : ∀ F' H', Go K ρ σ F H ρ σ F' H' → ∀ p o, F' p = none → H' p = some o → Ro K F' p o d → ¬ Own ρ σ p → (Own ρ0 σ p ∨ H0 p = none) → Q (.ref p) H') : OutN K F H d Q :=
  fun p o F' H' g hp hf hh ro => h F' H' (g.go g0.rel) p o hf hh ro (not_own_new g0.rel hp) (by
    cases q : H0 p with
    | none => exact .inr rfl
    | some u =>
      by_cases hw : Own ρ0 σ p
      · exact .inl hw
      · have := g0.sameH r0 q hw
        rw [hp] at this; cases this)
theorem xe_op2R {op : Operator} {f : D → D → Option D} {r : R2} (ho : OpR X (binaryOp op) r) (hi : Imp2 X.K f r) (ha : PE X a (lE X.K E ta)) (hb : PE X b (lE X.K E tb)) : PE X (.BinOp a op b pos) (lE X.K E (xOp2 f ta tb)) := by
  refine pe_imp (pe_op ho ha hb) fun σ H Q h => ?_
  obtain ⟨F, ρ, r, p⟩ := h
  refine ⟨F, ρ, r, (Pend.bind r p).mono fun x ρ1 F1 H1 g1 q v rv => ⟨F1, ρ1, g1.rel, (Pend.bind g1.rel q).mono fun y ρ2 F2 H2 g2 q w rw => ?_⟩⟩
  obtain ⟨d, e, q⟩ := q.lift
  exact hi F2 H2 v w x y d Q g2.rel.ex (rv.mono g2.ex) rw e (outV_of g2.rel q)
theorem xe_un {op : UnaryOp} {f : D → Option D} {r : V → Hp → VK → Prop} (ho : UnR X (unaryOp op) r) (hi : Imp1 X.K f r) (ha : PE X a (lE X.K E ta)) : PE X (.UnaryOp op a pos) (lE X.K E (xOp1 f ta)) := by
  refine pe_imp (pe_un ho ha) fun σ H Q h => ?_
  obtain ⟨F, ρ, r, p⟩ := h
  refine ⟨F, ρ, r, (Pend.bind r p).mono fun x ρ1 F1 H1 g1 q v rv => ?_⟩
  obtain ⟨d, e, q⟩ := q.lift
  exact hi F1 H1 v x d Q g1.rel.ex rv e (outV_of g1.rel q)
theorem xe_cmp {op : CmpOp} {f : D → D → Option D} {r : R2} (ho : OpR X (compareOp op) r) (hi : Imp2 X.K f r) (ha : PE X a (lE X.K E ta)) (hb : PE X b (lE X.K E tb)) (hm : behindInMarks op b = false) : PE X (.Compare a [op] [b] pos) (lE X.K E (xOp2 f ta tb)) := by
  refine pe_imp (pe_cmpR ho ha hb hm) fun σ H Q h => ?_
  obtain ⟨F, ρ, r, p⟩ := h
  refine ⟨F, ρ, r, (Pend.bind r p).mono fun x ρ1 F1 H1 g1 q v rv => ⟨F1, ρ1, g1.rel, (Pend.bind g1.rel q).mono fun y ρ2 F2 H2 g2 q w rw => ?_⟩⟩
  obtain ⟨d, e, q⟩ := q.lift
  exact hi F2 H2 v w x y d Q g2.rel.ex (rv.mono g2.ex) rw e (outV_of g2.rel q)
theorem xe_ixR {f : D → D → Option D} {r : R2} (ho : IxR X r) (hi : Imp2 X.K f r) (ha : PE X a (lE X.K E ta)) (hb : PE X b (lE X.K E tb)) (hs : PlainIx b) : PE X (.Subscript a b pos) (lE X.K E (xOp2 f ta tb)) := by
  refine pe_imp (pe_ix ho ha hb hs) fun σ H Q h => ?_
  obtain ⟨F, ρ, r, p⟩ := h
  refine ⟨F, ρ, r, (Pend.bind r p).mono fun x ρ1 F1 H1 g1 q v rv => ⟨F1, ρ1, g1.rel, (Pend.bind g1.rel q).mono fun y ρ2 F2 H2 g2 q w rw => ?_⟩⟩
  obtain ⟨d, e, q⟩ := q.lift
  exact hi F2 H2 v w x y d Q g2.rel.ex (rv.mono g2.ex) rw e (outV_of g2.rel q)

def xNil : XA := fun ρ => .ok [] ρ
def xCons (ta : XV) (tr : XA) : XA := fun ρ => (ta ρ).bind fun x ρ1 => (tr ρ1).bind fun xs ρ2 => .ok (x :: xs) ρ2
theorem xa_nil : PA X [] (lA X.K E xNil) := pa_imp pa_nil fun σ H Q h => by
  obtain ⟨F, ρ, r, p⟩ := h
  exact p F H (Go.refl r) [] .nil
theorem xa_cons {e : Expr} {es : List Expr} {tr : XA} (ha : PE X e (lE X.K E ta)) (hr : PA X es (lA X.K E tr)) (hs : starEach (e :: es) X.env = (false, eval e X.env) :: starEach es X.env := by rfl) : PA X (e :: es) (lA X.K E (xCons ta tr)) := by
  refine pa_imp (pa_cons ha hr hs) fun σ H Q h => ?_
  obtain ⟨F, ρ, r, p⟩ := h
  refine ⟨F, ρ, r, (Pend.bind r p).mono fun x ρ1 F1 H1 g1 q v rv => ⟨F1, ρ1, g1.rel, (Pend.bind g1.rel q).mono fun xs ρ2 F2 H2 g2 q vs rs => ?_⟩⟩
  exact q F2 H2 (Go.refl g2.rel) (v :: vs) (.cons (rv.mono g2.ex) rs)
def dTup (ds : List D) : Option D := if ds.length ≤ sizeLine then some (.tup ds) else none
def dLst (ds : List D) : Option D := if ds.length ≤ sizeLine then some (.lst ds) else none
theorem xe_tup {es : List Expr} {t : XA} {k : Nat} (h : PA X es (lA X.K E t)) : PE X (.Tuple es k pos) (lE X.K E (xOpL dTup t)) := by
  refine pe_imp (pe_tup h) fun σ H Q h => ?_
  obtain ⟨F, ρ, r, p⟩ := h
  refine ⟨F, ρ, r, (Pend.bind r p).mono fun xs ρ1 F1 H1 g1 q vs rs => ?_⟩
  obtain ⟨d, e, q⟩ := q.lift
  unfold dTup at e
  split at e
  · cases e
    rename_i hl
    refine ⟨by rw [rs.length]; exact hl, fun b hb => ?_⟩
    exact (outV_of g1.rel q).new g1.rel.ex hb (.tup upd_same (rs.mono (Gr.new (o := .tup vs) g1.rel.ex hb).ex))
  · cases e
theorem xn_lst {es : List Expr} {t : XA} (h : PA X es (lA X.K E t)) : PE X (.List es pos) (lN X.K E (xOpL dLst t)) := by
  refine pe_imp (pe_lst h) fun σ H Q h => ?_
  obtain ⟨F, ρ, r, p⟩ := h
  refine ⟨F, ρ, r, (Pend.bind r p).mono fun xs ρ1 F1 H1 g1 q vs rs => ?_⟩
  obtain ⟨d, e, q⟩ := q.lift
  unfold dLst at e
  split at e
  · cases e
    rename_i hl
    refine ⟨by rw [rs.length]; exact hl, fun b hb => ?_⟩
    exact (outN_of r g1 q).new g1.rel.ex hb (.lst rs)
  · cases e
/-- built-ins by name -/
theorem xe_callB {id : String} {x : Str} {p : Pos} {e : Expr} {es : List Expr} {t : XA} {f : List D → Option D} {r : List V → Hp → VK → Prop} (hc : CallR X (.builtin id) r) (hi : ImpL X.K f r) (hg : Gl X x) (hm : X.mg x = none) (hv : bootBuiltins x = some (.builtin id)) (ha : PA X (e :: es) (lA X.K E t)) (hn : x ≠ "__name__" := by decide) (hdb : (x == ("__debug__" : Str)) = false := by decide)
    (he : starEach (e :: es) X.env = (false, eval e X.env) :: starEach es X.env := by rfl) (hpl : (backTo pos (starEach es X.env)).any (·.1) = false := by rfl) : PE X (.Call (.Name x p) (e :: es) [] pos) (lE X.K E (xOpL f t)) := by
  refine pe_imp (pe_callB hc hg hm hv ha hn hdb he hpl) fun σ H Q h => ?_
  obtain ⟨F, ρ, r, p⟩ := h
  refine ⟨F, ρ, r, (Pend.bind r p).mono fun xs ρ1 F1 H1 g1 q vs rs => ?_⟩
  obtain ⟨d, e, q⟩ := q.lift
  exact hi F1 H1 vs xs d Q g1.rel.ex rs e (outV_of g1.rel q)
theorem xn_callB {id : String} {x : Str} {p : Pos} {e : Expr} {es : List Expr} {t : XA} {f : List D → Option D} {r : List V → Hp → VK → Prop} (hc : CallR X (.builtin id) r) (hi : ImpLN X.K f r) (hg : Gl X x) (hm : X.mg x = none) (hv : bootBuiltins x = some (.builtin id)) (ha : PA X (e :: es) (lA X.K E t)) (hn : x ≠ "__name__" := by decide) (hdb : (x == ("__debug__" : Str)) = false := by decide)
    (he : starEach (e :: es) X.env = (false, eval e X.env) :: starEach es X.env := by rfl) (hpl : (backTo pos (starEach es X.env)).any (·.1) = false := by rfl) : PE X (.Call (.Name x p) (e :: es) [] pos) (lN X.K E (xOpL f t)) := by
  refine pe_imp (pe_callB hc hg hm hv ha hn hdb he hpl) fun σ H Q h => ?_
  obtain ⟨F, ρ, r, p⟩ := h
  refine ⟨F, ρ, r, (Pend.bind r p).mono fun xs ρ1 F1 H1 g1 q vs rs => ?_⟩
  obtain ⟨d, e, q⟩ := q.lift
  exact hi F1 H1 vs xs d Q g1.rel.ex rs e (outN_of r g1 q)
theorem xe_callT {T : String} {x : Str} {p : Pos} {e : Expr} {es : List Expr} {t : XA} {f : List D → Option D} {r : List V → Hp → VK → Prop} (hc : CallR X (.type T) r) (hi : ImpL X.K f r) (hg : Gl X x) (hm : X.mg x = none) (hv : bootBuiltins x = some (.type T)) (ha : PA X (e :: es) (lA X.K E t)) (hn : x ≠ "__name__" := by decide) (hdb : (x == ("__debug__" : Str)) = false := by decide)
    (he : starEach (e :: es) X.env = (false, eval e X.env) :: starEach es X.env := by rfl) (hpl : (backTo pos (starEach es X.env)).any (·.1) = false := by rfl) : PE X (.Call (.Name x p) (e :: es) [] pos) (lE X.K E (xOpL f t)) := by
  refine pe_imp (pe_callTy hc hg hm hv ha hn hdb he hpl) fun σ H Q h => ?_
  obtain ⟨F, ρ, r, p⟩ := h
  refine ⟨F, ρ, r, (Pend.bind r p).mono fun xs ρ1 F1 H1 g1 q vs rs => ?_⟩
  obtain ⟨d, e, q⟩ := q.lift
  exact hi F1 H1 vs xs d Q g1.rel.ex rs e (outV_of g1.rel q)
theorem xn_callT {T : String} {x : Str} {p : Pos} {e : Expr} {es : List Expr} {t : XA} {f : List D → Option D} {r : List V → Hp → VK → Prop} (hc : CallR X (.type T) r) (hi : ImpLN X.K f r) (hg : Gl X x) (hm : X.mg x = none) (hv : bootBuiltins x = some (.type T)) (ha : PA X (e :: es) (lA X.K E t)) (hn : x ≠ "__name__" := by decide) (hdb : (x == ("__debug__" : Str)) = false := by decide)
    (he : starEach (e :: es) X.env = (false, eval e X.env) :: starEach es X.env := by rfl) (hpl : (backTo pos (starEach es X.env)).any (·.1) = false := by rfl) : PE X (.Call (.Name x p) (e :: es) [] pos) (lN X.K E (xOpL f t)) := by
  refine pe_imp (pe_callTy hc hg hm hv ha hn hdb he hpl) fun σ H Q h => ?_
  obtain ⟨F, ρ, r, p⟩ := h
  refine ⟨F, ρ, r, (Pend.bind r p).mono fun xs ρ1 F1 H1 g1 q vs rs => ?_⟩
  obtain ⟨d, e, q⟩ := q.lift
  exact hi F1 H1 vs xs d Q g1.rel.ex rs e (outN_of r g1 q)

def xTest (t : XV) : XT := fun ρ => (t ρ).bind fun x ρ1 => match x with
  | .bl b => .ok b ρ1
  | _ => .bad
def xAnd (t u : XT) : XT := fun ρ => (t ρ).bind fun b ρ1 => if b = true then u ρ1 else .ok false ρ1
def xOr (t u : XT) : XT := fun ρ => (t ρ).bind fun b ρ1 => if b = true then .ok true ρ1 else u ρ1
def xNot (t : XT) : XT := fun ρ => (t ρ).bind fun b ρ1 => .ok (!b) ρ1
theorem bl_of {K : PySem.W.Frag} {σ : L2.St} {F H : Hp} {ρ : Rho} {x : D} {v : V} {Q : Bool → Rho → Hp → Hp → Prop} (r : Rel K F H ρ σ) (rv : Rp K F v x) (h : Pend K E (fun ρ1 => match x with | .bl b => (.ok b ρ1 : Res Bool) | _ => .bad) ρ σ F H Q) : ∃ c, v = .bl c ∧ Q c ρ F H := by
  unfold Pend at h
  cases x with
  | bl b => cases rv; exact ⟨b, rfl, h F H (Go.refl r)⟩
  | non => exact h.elim
  | int _ => exact h.elim
  | str _ => exact h.elim
  | ty _ => exact h.elim
  | tup _ => exact h.elim
  | lst _ => exact h.elim
  | fix _ => exact h.elim
  | dicK _ _ => exact h.elim
  | dicT _ _ => exact h.elim
  | dicN _ _ => exact h.elim
  | exn _ => exact h.elim
  | inst _ _ => exact h.elim
  | _ => exact h.elim
theorem xt_val {e : Expr} {t : XV} (h : PE X e (lE X.K E t)) (he : ∀ whole, isTrue e X.env whole = (do let v ← whole; standAt e.pos; holding [v] (truthy v)) := by intro _; rfl) : PT X e (lT X.K E (xTest t)) := by
  refine pt_imp (pt_val h he) fun σ H Q h => ?_
  obtain ⟨F, ρ, r, p⟩ := h
  refine ⟨F, ρ, r, (Pend.bind r p).mono fun x ρ1 F1 H1 g1 q v rv => ?_⟩
  obtain ⟨c, e, q⟩ := bl_of g1.rel rv q
  exact ⟨c, e, q⟩
theorem xt_cmp {op : CmpOp} {f : D → D → Option D} {r : R2} (ho : OpR X (compareOp op) r) (hi : Imp2 X.K f r) (ha : PE X a (lE X.K E ta)) (hb : PE X b (lE X.K E tb)) (hm : behindInMarks op b = false) : PT X (.Compare a [op] [b] pos) (lT X.K E (xTest (xOp2 f ta tb))) := by
  refine pt_imp (pt_cmpR ho ha hb hm) fun σ H Q h => ?_
  obtain ⟨F, ρ, r, p⟩ := h
  have p := Pend.bind r p
  refine ⟨F, ρ, r, (Pend.bind r p).mono fun x ρ1 F1 H1 g1 q v rv => ⟨F1, ρ1, g1.rel, (Pend.bind g1.rel q).mono fun y ρ2 F2 H2 g2 q w rw => ?_⟩⟩
  obtain ⟨d, e, q⟩ := q.lift
  refine hi F2 H2 v w x y d _ g2.rel.ex (rv.mono g2.ex) rw e fun u F3 H3 g3 ru => ?_
  obtain ⟨c, e, q⟩ := bl_of (g3.go g2.rel).rel ru (q F3 H3 (g3.go g2.rel))
  exact ⟨c, e, q⟩
theorem xw_and1 {tA : XT} (ha : PT X a (lT X.K E tA)) : PW X (.BoolOp .And [a] pos) (lT X.K E tA) := pw_and1 ha
theorem xw_or1 {tA : XT} (ha : PT X a (lT X.K E tA)) : PW X (.BoolOp .Or [a] pos) (lT X.K E tA) := pw_or1 ha
theorem pw_imp {e : Expr} {t t' : TT} (h : PW X e t) (k : ∀ σ H Q, t' σ H Q → t σ H Q) : PW X e t' := ⟨fun wh pins s σ H Q I q => h.run wh pins s σ H Q I (k σ H Q q)⟩
theorem xw_and {tA tB : XT} {rest : List Expr} (ha : PT X a (lT X.K E tA)) (hb : PW X (.BoolOp .And (b :: rest) pos) (lT X.K E tB)) : PW X (.BoolOp .And (a :: b :: rest) pos) (lT X.K E (xAnd tA tB)) := by
  refine pw_imp (pw_and ha hb) fun σ H Q h => ?_
  obtain ⟨F, ρ, r, p⟩ := h
  refine ⟨F, ρ, r, (Pend.bind r p).mono fun c ρ1 F1 H1 g1 q => ?_⟩
  cases c with
  | true => exact ⟨F1, ρ1, g1.rel, q⟩
  | false => exact q F1 H1 (Go.refl g1.rel)
theorem xw_or {tA tB : XT} {rest : List Expr} (ha : PT X a (lT X.K E tA)) (hb : PW X (.BoolOp .Or (b :: rest) pos) (lT X.K E tB)) : PW X (.BoolOp .Or (a :: b :: rest) pos) (lT X.K E (xOr tA tB)) := by
  refine pw_imp (pw_or ha hb) fun σ H Q h => ?_
  obtain ⟨F, ρ, r, p⟩ := h
  refine ⟨F, ρ, r, (Pend.bind r p).mono fun c ρ1 F1 H1 g1 q => ?_⟩
  cases c with
  | false => exact ⟨F1, ρ1, g1.rel, q⟩
  | true => exact q F1 H1 (Go.refl g1.rel)
theorem xt_not {tA : XT} (ha : PT X a (lT X.K E tA)) : PT X (.UnaryOp .Not a pos) (lT X.K E (xNot tA)) := by
  refine pt_imp (pt_not ha) fun σ H Q h => ?_
  obtain ⟨F, ρ, r, p⟩ := h
  exact ⟨F, ρ, r, (Pend.bind r p).mono fun c ρ1 F1 H1 g1 q => q F1 H1 (Go.refl g1.rel)⟩
/-- and, or, not as values -/
def xAndV (t u : XV) : XV := fun ρ => (xTest t ρ).bind fun b ρ1 => if b = true then u ρ1 else .ok (.bl false) ρ1
def xOrV (t u : XV) : XV := fun ρ => (xTest t ρ).bind fun b ρ1 => if b = true then .ok (.bl true) ρ1 else u ρ1
def xNotV (t : XV) : XV := fun ρ => (xTest t ρ).bind fun b ρ1 => .ok (.bl (!b)) ρ1
theorem xe_one {op : BoolOp} {t : XV} (h : PE X a (lE X.K E t)) : PE X (.BoolOp op [a] pos) (lE X.K E t) := pe_one h
theorem xe_and {rest : List Expr} (ha : PE X a (lE X.K E ta)) (hb : PE X (.BoolOp .And (b :: rest) pos) (lE X.K E tb)) : PE X (.BoolOp .And (a :: b :: rest) pos) (lE X.K E (xAndV ta tb)) := by
  refine pe_imp (pe_and ha hb) fun σ H Q h => ?_
  obtain ⟨F, ρ, r, p⟩ := h
  have p := Pend.bind r p
  refine ⟨F, ρ, r, (Pend.bind r p).mono fun x ρ1 F1 H1 g1 q v rv => ?_⟩
  obtain ⟨c, e, q⟩ := bl_of g1.rel rv q
  refine ⟨c, e, ?_⟩
  cases c with
  | true => exact ⟨F1, ρ1, g1.rel, q⟩
  | false => exact q F1 H1 (Go.refl g1.rel) _ (.bl _)
theorem xe_or {rest : List Expr} (ha : PE X a (lE X.K E ta)) (hb : PE X (.BoolOp .Or (b :: rest) pos) (lE X.K E tb)) : PE X (.BoolOp .Or (a :: b :: rest) pos) (lE X.K E (xOrV ta tb)) := by
  refine pe_imp (pe_or ha hb) fun σ H Q h => ?_
  obtain ⟨F, ρ, r, p⟩ := h
  have p := Pend.bind r p
  refine ⟨F, ρ, r, (Pend.bind r p).mono fun x ρ1 F1 H1 g1 q v rv => ?_⟩
  obtain ⟨c, e, q⟩ := bl_of g1.rel rv q
  refine ⟨c, e, ?_⟩
  cases c with
  | false => exact ⟨F1, ρ1, g1.rel, q⟩
  | true => exact q F1 H1 (Go.refl g1.rel) _ (.bl _)
def xIf (t : XT) (ta tb : XV) : XV := fun ρ => (t ρ).bind fun b ρ1 => if b = true then ta ρ1 else tb ρ1
end
end G


namespace G
open PySem PySem.Spec PyProof.Rows L2

inductive Fl where
  | nx (ρ : Rho) | ret (d : D) (ρ : Rho) | brk (ρ : Rho) | cnt (ρ : Rho) | exc (c : String) (ρ : Rho) | bad
abbrev XS := Rho → Fl
def Res.fl {α : Type} (r : Res α) (f : α → Rho → Fl) : Fl := match r with
  | .ok a ρ => f a ρ
  | .exc c ρ => .exc c ρ
  | .bad => .bad
def Fl.seq (r : Fl) (f : XS) : Fl := match r with
  | .nx ρ => f ρ
  | .ret d ρ => .ret d ρ
  | .brk ρ => .brk ρ
  | .cnt ρ => .cnt ρ
  | .exc c ρ => .exc c ρ
  | .bad => .bad

section
variable (K : PySem.W.Frag) (E : EW) (fr : Bool)
def RetP (d : D) (ρ : Rho) (σ : L2.St) (F H : Hp) (ρ' : Rho) (rt : VK) : Prop :=
  (fr = false → ∀ v σ' F' H', Go K ρ σ F H ρ' σ' F' H' → Rp K F' v d → rt v H') ∧
  (fr = true → ∀ p o σ' F' H', Go K ρ σ F H ρ' σ' F' H' → F' p = none → H' p = some o → Ro K F' p o d → ¬ Own ρ' σ' p → (Own ρ σ p ∨ H p = none) → rt (.ref p) H')
def PendS (t : XS) (ρ : Rho) (σ : L2.St) (F H : Hp) (C : Ends) : Prop := match t ρ with
  | .nx ρ' => ∀ σ' F' H', Go K ρ σ F H ρ' σ' F' H' → C.nx σ' H'
  | .ret d ρ' => RetP K fr d ρ σ F H ρ' C.rt
  | .brk ρ' => ∀ σ' F' H', Go K ρ σ F H ρ' σ' F' H' → C.bk σ' H'
  | .cnt ρ' => ∀ σ' F' H', Go K ρ σ F H ρ' σ' F' H' → C.ct σ' H'
  | .exc c ρ' => ∀ σ' F' H', Go K ρ σ F H ρ' σ' F' H' → E c σ' H'
  | .bad => False
def lS (t : XS) : TS := fun C σ H => ∃ F ρ, Rel K F H ρ σ ∧ PendS K E fr t ρ σ F H C
end
section
variable {K : PySem.W.Frag} {E : EW} {fr : Bool} {σ σ1 : L2.St} {F H F1 H1 : Hp} {ρ ρ1 : Rho} {C : Ends}
theorem own_back (r : Rel K F H ρ σ) (g : Go K ρ σ F H ρ1 σ1 F1 H1) {p : Addr} (h : Own ρ1 σ1 p ∨ H1 p = none) : Own ρ σ p ∨ H p = none := by
  rcases h with h | h
  · exact g.own p h
  · cases q : H p with
    | none => exact .inr rfl
    | some u =>
      by_cases hw : Own ρ σ p
      · exact .inl hw
      · have := g.sameH r q hw
        rw [h] at this; cases this
theorem RetP.go {d : D} {ρ' : Rho} {rt : VK} (r : Rel K F H ρ σ) (g : Go K ρ σ F H ρ1 σ1 F1 H1) (h : RetP K fr d ρ σ F H ρ' rt) : RetP K fr d ρ1 σ1 F1 H1 ρ' rt :=
  ⟨fun e v σ' F' H' g' rv => h.1 e v σ' F' H' (g.trans r g') rv, fun e p o σ' F' H' g' h1 h2 h3 h4 h5 => h.2 e p o σ' F' H' (g.trans r g') h1 h2 h3 h4 (own_back r g h5)⟩
/-- an expression, then the rest -/
theorem PendS.fl {α : Type} {t : Rho → Res α} {f : α → Rho → Fl} (r : Rel K F H ρ σ) (h : PendS K E fr (fun ρ => (t ρ).fl f) ρ σ F H C) :
    Pend K E t ρ σ F H fun a ρ1 F1 H1 => PendS K E fr (f a) ρ1 σ F1 H1 C := by
  unfold PendS at h
  unfold Pend
  split <;> rename_i e <;> simp only [e, Res.fl] at h
  · intro F1 H1 g
    unfold PendS
    split <;> rename_i e2 <;> rw [e2] at h
    · exact fun σ2 F2 H2 g2 => h σ2 F2 H2 (g.trans r g2)
    · exact RetP.go r g h
    · exact fun σ2 F2 H2 g2 => h σ2 F2 H2 (g.trans r g2)
    · exact fun σ2 F2 H2 g2 => h σ2 F2 H2 (g.trans r g2)
    · exact fun σ2 F2 H2 g2 => h σ2 F2 H2 (g.trans r g2)
    · exact h
  · exact fun F' H' g => h σ F' H' g
theorem PendS.seq {t u : XS} (r : Rel K F H ρ σ) (h : PendS K E fr (fun ρ => (t ρ).seq u) ρ σ F H C) : PendS K E fr t ρ σ F H { C with nx := lS K E fr u C } := by
  unfold PendS at h ⊢
  split <;> rename_i e <;> simp only [e, Fl.seq] at h
  · intro σ1 F1 H1 g
    refine ⟨F1, _, g.rel, ?_⟩
    unfold PendS
    split <;> rename_i e2 <;> rw [e2] at h
    · exact fun σ2 F2 H2 g2 => h σ2 F2 H2 (g.trans r g2)
    · exact RetP.go r g h
    · exact fun σ2 F2 H2 g2 => h σ2 F2 H2 (g.trans r g2)
    · exact fun σ2 F2 H2 g2 => h σ2 F2 H2 (g.trans r g2)
    · exact fun σ2 F2 H2 g2 => h σ2 F2 H2 (g.trans r g2)
    · exact h
  · exact h
  · exact h
  · exact h
  · exact h
theorem PendS.nx {ρ' : Rho} (h : PendS K E fr (fun _ => .nx ρ') ρ σ F H C) (g : Go K ρ σ F H ρ' σ1 F1 H1) : C.nx σ1 H1 := h σ1 F1 H1 g
/-- the same work behind a step -/
theorem PendS.go {t : XS} (r : Rel K F H ρ σ) (g : Go K ρ σ F H ρ1 σ1 F1 H1) (h : PendS K E fr (fun _ => t ρ1) ρ σ F H C) : PendS K E fr t ρ1 σ1 F1 H1 C := by
  unfold PendS at h ⊢
  split <;> rename_i e2 <;> rw [e2] at h
  · exact fun σ2 F2 H2 g2 => h σ2 F2 H2 (g.trans r g2)
  · exact RetP.go r g h
  · exact fun σ2 F2 H2 g2 => h σ2 F2 H2 (g.trans r g2)
  · exact fun σ2 F2 H2 g2 => h σ2 F2 H2 (g.trans r g2)
  · exact fun σ2 F2 H2 g2 => h σ2 F2 H2 (g.trans r g2)
  · exact h

theorem get_set {α : Type} {l : List α} {i j : Nat} {x y : α} (h : (l.set i x)[j]? = some y) : (i = j ∧ y = x) ∨ (i ≠ j ∧ l[j]? = some y) := by
  by_cases e : i = j
  · subst e
    refine .inl ⟨rfl, ?_⟩
    by_cases hl : i < l.length
    · rw [List.getElem?_set_self hl] at h
      exact (Option.some.inj h).symm
    · rw [List.getElem?_eq_none (by rw [List.length_set]; omega)] at h
      cases h
  · rw [List.getElem?_set_ne e] at h
    exact .inr ⟨e, h⟩
theorem own_set_val {i : Nat} {s : Slot} {o : Option V} (hs : ∀ d, s ≠ .own d) {p : Addr} (h : Own (ρ.set i s) (σ.set i o) p) : Own ρ σ p := by
  obtain ⟨j, d, h1, h2⟩ := h
  rcases get_set h1 with ⟨_, e⟩ | ⟨hj, h1⟩
  · exact absurd e.symm (hs d)
  · rcases get_set h2 with ⟨e, _⟩ | ⟨_, h2⟩
    · exact absurd e hj
    · exact ⟨j, d, h1, h2⟩
theorem Go.setVal {i : Nat} {v : V} {d : D} (h0 : i ≠ 0) (r : Rel K F H ρ σ) (rv : Rp K F v d) : Go K ρ σ F H (ρ.set i (.val d)) (σ.set i (some v)) F H where
  rel := by
    refine ⟨r.ex, by rw [List.length_set, List.length_set]; exact r.len, fun j s o h1 h2 => ?_, fun j k d1 d2 p h1 h2 h3 h4 => ?_, fun j d1 p h1 h2 h3 => ?_⟩
    rotate_right
    · rcases get_set h1 with ⟨_, q⟩ | ⟨hj, h1⟩
      · cases q
      · rcases get_set h2 with ⟨e, _⟩ | ⟨_, h2⟩
        · exact absurd e hj
        · exact r.rdis j d1 p h1 h2 (own_set_val (fun _ z => by cases z) h3)
    · rcases get_set h1 with ⟨e, rfl⟩ | ⟨hj, h1⟩
      · rcases get_set h2 with ⟨_, rfl⟩ | ⟨hj, _⟩
        · exact .val rv
        · exact absurd e hj
      · rcases get_set h2 with ⟨e, _⟩ | ⟨_, h2⟩
        · exact absurd e hj
        · exact r.at' j s o h1 h2
    · rcases get_set h1 with ⟨_, q⟩ | ⟨hj, h1⟩
      · cases q
      · rcases get_set h2 with ⟨_, q⟩ | ⟨hk, h2⟩
        · cases q
        · rcases get_set h3 with ⟨q, _⟩ | ⟨_, h3⟩
          · exact absurd q hj
          · rcases get_set h4 with ⟨q, _⟩ | ⟨_, h4⟩
            · exact absurd q hk
            · exact r.dis j k d1 d2 p h1 h2 h3 h4
  ex := Same.refl F
  keep := fun _ _ h1 h2 _ => ⟨h1, fun _ => h2⟩
  own := fun p h => .inl (own_set_val (fun _ z => by cases z) h)
  low := List.getElem?_set_ne h0
  lowO := fun d h => ⟨d, by rw [List.getElem?_set_ne h0]; exact h⟩
  rdb := fun j e h => by
    rcases get_set h with ⟨_, q⟩ | ⟨hj, h⟩
    · cases q
    · exact ⟨h, List.getElem?_set_ne hj⟩
theorem Rel.setOwn {i : Nat} {p : Addr} {o : HO} {d : D} (r : Rel K F H ρ σ) (h1 : F p = none) (h2 : H p = some o) (h3 : Ro K F p o d) (hn : ¬ Own ρ σ p) (hrd : ∀ (j : Nat) (e : D), ρ[j]? = some (.rd e) → σ[j]? = some (some (.ref p)) → False) : Rel K F H (ρ.set i (.own d)) (σ.set i (some (.ref p))) := by
  refine ⟨r.ex, by rw [List.length_set, List.length_set]; exact r.len, fun j s o g1 g2 => ?_, fun j k d1 d2 q g1 g2 g3 g4 => ?_, fun j d1 q g1 g2 g3 => ?_⟩
  rotate_right
  · rcases get_set g1 with ⟨_, z⟩ | ⟨hj, g1⟩
    · cases z
    · rcases get_set g2 with ⟨e, _⟩ | ⟨_, g2⟩
      · exact absurd e hj
      · obtain ⟨k, e, k1, k2⟩ := g3
        rcases get_set k2 with ⟨ek, ek2⟩ | ⟨hk, k2⟩
        · cases ek2
          exact hrd j d1 g1 g2
        · rcases get_set k1 with ⟨ek, _⟩ | ⟨_, k1⟩
          · exact absurd ek hk
          · exact r.rdis j d1 q g1 g2 ⟨k, e, k1, k2⟩
  · rcases get_set g1 with ⟨e, rfl⟩ | ⟨hj, g1⟩
    · rcases get_set g2 with ⟨_, rfl⟩ | ⟨hj, _⟩
      · exact .own h1 h2 h3
      · exact absurd e hj
    · rcases get_set g2 with ⟨e, _⟩ | ⟨_, g2⟩
      · exact absurd e hj
      · exact r.at' j s _ g1 g2
  · rcases get_set g1 with ⟨ej, _⟩ | ⟨hj, g1⟩
    · rcases get_set g2 with ⟨ek, _⟩ | ⟨hk, g2⟩
      · exact ej.symm.trans ek
      · rcases get_set g3 with ⟨_, e3⟩ | ⟨z, _⟩
        · cases e3
          rcases get_set g4 with ⟨q, _⟩ | ⟨_, g4⟩
          · exact absurd q hk
          · exact absurd ⟨k, d2, g2, g4⟩ hn
        · exact absurd ej z
    · rcases get_set g2 with ⟨ek, _⟩ | ⟨hk, g2⟩
      · rcases get_set g4 with ⟨_, e4⟩ | ⟨z, _⟩
        · cases e4
          rcases get_set g3 with ⟨q, _⟩ | ⟨_, g3⟩
          · exact absurd q hj
          · exact absurd ⟨j, d1, g1, g3⟩ hn
        · exact absurd ek z
      · rcases get_set g3 with ⟨q, _⟩ | ⟨_, g3⟩
        · exact absurd q hj
        · rcases get_set g4 with ⟨q, _⟩ | ⟨_, g4⟩
          · exact absurd q hk
          · exact r.dis j k d1 d2 q g1 g2 g3 g4
/-- behind an expression that gave a new object, it is stored -/
theorem Go.setOwn {i : Nat} {p : Addr} {o : HO} {d : D} (h0 : i ≠ 0) (r : Rel K F H ρ σ) (g : Go K ρ σ F H ρ1 σ F1 H1) (h1 : F1 p = none) (h2 : H1 p = some o) (h3 : Ro K F1 p o d) (hn : ¬ Own ρ1 σ p) (hw : Own ρ σ p ∨ H p = none) :
    Go K ρ σ F H (ρ1.set i (.own d)) (σ.set i (some (.ref p))) F1 H1 where
  rel := g.rel.setOwn h1 h2 h3 hn fun j e k1 k2 => by
    obtain ⟨k3, k4⟩ := g.rdb j e k1
    rw [k4] at k2
    rcases hw with hw | hw
    · exact r.rdis j e p k3 k2 hw
    · have z := g.rel.at' j _ _ k1 (k4.trans k2)
      have z0 := r.at' j _ _ k3 k2
      cases z0 with
      | rd ra =>
        cases ra with
        | own _ y _ => rw [hw] at y; cases y
        | val rp nf => exact rp_at rp nf (r.ex.free hw)
  ex := g.ex
  keep := g.keep
  own := fun q h => by
    obtain ⟨j, e, q1, q2⟩ := h
    rcases get_set q2 with ⟨ej, z⟩ | ⟨hj, q2⟩
    · cases z
      exact hw
    · rcases get_set q1 with ⟨ej, _⟩ | ⟨_, q1⟩
      · exact absurd ej hj
      · exact g.own q ⟨j, e, q1, q2⟩
  low := List.getElem?_set_ne h0
  lowO := fun d h => by
    obtain ⟨d', h'⟩ := g.lowO d h
    exact ⟨d', by rw [List.getElem?_set_ne h0]; exact h'⟩
  rdb := fun j e h => by
    rcases get_set h with ⟨_, q⟩ | ⟨hj, h⟩
    · cases q
    · obtain ⟨k1, k2⟩ := g.rdb j e h
      exact ⟨k1, (List.getElem?_set_ne hj).trans k2⟩
/-- an owned object is changed -/
theorem Go.mut {i : Nat} {p : Addr} {o o' : HO} {d d' : D} (r : Rel K F H ρ σ) (hi : ρ[i]? = some (.own d)) (hs : σ[i]? = some (some (.ref p))) (h1 : F p = none) (h2 : H p = some o) (h3 : Ro K F p o' d') :
    Go K ρ σ F H (ρ.set i (.own d')) σ F (upd H p o') where
  rel := by
    refine ⟨fun b u q => by rw [upd_ne (ne_of_none q h1)]; exact r.ex b u q, by rw [List.length_set]; exact r.len, fun j s v g1 g2 => ?_, fun j k d1 d2 q g1 g2 g3 g4 => ?_, fun j d1 q g1 g2 g3 => ?_⟩
    rotate_right
    · rcases get_set g1 with ⟨_, z⟩ | ⟨hj, g1⟩
      · cases z
      · refine r.rdis j d1 q g1 g2 ?_
        obtain ⟨k, e, k1, k2⟩ := g3
        rcases get_set k1 with ⟨ek, _⟩ | ⟨_, k1⟩
        · subst ek; exact ⟨_, d, hi, k2⟩
        · exact ⟨k, e, k1, k2⟩
    · rcases get_set g1 with ⟨e, rfl⟩ | ⟨hj, g1⟩
      · subst e
        rw [hs] at g2
        cases g2
        exact .own h1 upd_same h3
      · have z := r.at' j s v g1 g2
        cases z with
        | emp => exact .emp
        | adr => exact .adr
        | val rp => exact .val rp
        | own z1 z2 z3 =>
          refine .own z1 ?_ z3
          rw [upd_ne]
          · exact z2
          · rintro rfl
            exact hj (r.dis i j _ _ _ hi g1 hs g2)
        | rd ra =>
          refine .rd (ra.step (Same.refl F) fun q u _ eq e1 e2 => ⟨?_, e2⟩)
          subst eq
          rw [upd_ne]
          · exact e1
          · rintro rfl
            exact r.rdis j _ _ g1 g2 ⟨i, d, hi, hs⟩
    · have own_of : ∀ (m : Nat) (e : D), (ρ.set i (Slot.own d'))[m]? = some (Slot.own e) → ∃ e' : D, ρ[m]? = some (Slot.own e') := fun m e h => by
        rcases get_set h with ⟨e1, _⟩ | ⟨_, h⟩
        · subst e1; exact ⟨_, hi⟩
        · exact ⟨_, h⟩
      obtain ⟨e1, q1⟩ := own_of _ _ g1
      obtain ⟨e2, q2⟩ := own_of _ _ g2
      exact r.dis j k e1 e2 q q1 q2 g3 g4
  ex := Same.refl F
  keep := fun a u g1 g2 g3 => by
    refine ⟨?_, fun _ => g2⟩
    rw [upd_ne]
    · exact g1
    · rintro rfl
      exact g3 ⟨i, d, hi, hs⟩
  own := fun q h => by
    obtain ⟨j, e, q1, q2⟩ := h
    rcases get_set q1 with ⟨e1, _⟩ | ⟨_, q1⟩
    · subst e1
      exact .inl ⟨_, d, hi, q2⟩
    · exact .inl ⟨j, e, q1, q2⟩
  low := rfl
  lowO := fun d h => by
    by_cases h0 : i = 0
    · subst h0
      exact ⟨d', by rw [List.getElem?_set_self (by cases Nat.lt_or_ge 0 ρ.length with | inl z => exact z | inr z => rw [List.getElem?_eq_none z] at h; cases h)]⟩
    · exact ⟨d, by rw [List.getElem?_set_ne h0]; exact h⟩
  rdb := fun j e h => by
    rcases get_set h with ⟨_, q⟩ | ⟨_, h⟩
    · cases q
    · exact ⟨h, rfl⟩
end

section
variable {X : Cx} {E : EW} {fr : Bool} {pos : Pos}
def xNext : XS := fun ρ => .nx ρ
def xSeq (t u : XS) : XS := fun ρ => (t ρ).seq u
theorem xs_nil : PSs X [] (lS X.K E fr xNext) := pss_imp pss_nil fun C σ H h => by
  obtain ⟨F, ρ, r, p⟩ := h
  exact p σ F H (Go.refl r)
theorem xs_cons {s : Stmt} {rest : List Stmt} {t u : XS} (h1 : PS X s (lS X.K E fr t)) (h2 : PSs X rest (lS X.K E fr u)) : PSs X (s :: rest) (lS X.K E fr (xSeq t u)) := pss_imp (pss_cons h1 h2) fun C σ H h => by
  obtain ⟨F, ρ, r, p⟩ := h
  exact ⟨F, ρ, r, p.seq r⟩
theorem xs_one {s : Stmt} {t : XS} (h1 : PS X s (lS X.K E fr t)) : PSs X [s] (lS X.K E fr t) := pss_one h1
def xBrk : XS := fun ρ => .brk ρ
def xCnt : XS := fun ρ => .cnt ρ
def xDrop (te : XV) : XS := fun ρ => (te ρ).fl fun _ ρ1 => .nx ρ1
theorem xs_expr {e : Expr} {te : XV} (he : PE X e (lE X.K E te)) (hs : swapsWith e none pos.line X.env = pure false := by rfl) : PS X (.Expr e pos) (lS X.K E fr (xDrop te)) := ps_imp (ps_expr he hs) fun C σ H h => by
  obtain ⟨F, ρ, r, p⟩ := h
  exact ⟨F, ρ, r, (p.fl r).mono fun d ρ1 F1 H1 g q v rv => q σ F1 H1 (Go.refl g.rel)⟩
def xRet (te : XV) : XS := fun ρ => (te ρ).fl fun d ρ1 => .ret d ρ1
theorem xs_ret {e : Expr} {te : XV} (he : PE X e (lE X.K E te)) : PS X (.Return (some e) pos) (lS X.K E false (xRet te)) := ps_imp (ps_ret he) fun C σ H h => by
  obtain ⟨F, ρ, r, p⟩ := h
  exact ⟨F, ρ, r, (p.fl r).mono fun d ρ1 F1 H1 g q v rv => q.1 rfl v σ F1 H1 (Go.refl g.rel) rv⟩
theorem xs_retN {e : Expr} {te : XV} (he : PE X e (lN X.K E te)) : PS X (.Return (some e) pos) (lS X.K E true (xRet te)) := ps_imp (ps_ret he) fun C σ H h => by
  obtain ⟨F, ρ, r, p⟩ := h
  refine ⟨F, ρ, r, ?_⟩
  have r0 := r
  unfold PendS xRet at p
  unfold Pend
  split <;> rename_i e <;> simp only [e, Res.fl] at p
  · intro F1 H1 g b o h1 h2 h3 h4 h5
    exact p.2 rfl b o σ F1 H1 g h1 h2 h3 h4 h5
  · exact fun F1 H1 g => p σ F1 H1 g
def xIfS (t : XT) (a b : XS) : XS := fun ρ => (t ρ).fl fun c ρ1 => if c = true then a ρ1 else b ρ1
theorem xs_if {c : Expr} {a b : List Stmt} {tc : XT} {t u : XS} (hc : PT X c (lT X.K E tc)) (ha : PSs X a (lS X.K E fr t)) (hb : PSs X b (lS X.K E fr u)) : PS X (.If c a b pos) (lS X.K E fr (xIfS tc t u)) := ps_imp (ps_if hc ha hb) fun C σ H h => by
  obtain ⟨F, ρ, r, p⟩ := h
  refine ⟨F, ρ, r, (p.fl r).mono fun c ρ1 F1 H1 g q => ?_⟩
  cases c with
  | true => exact ⟨F1, ρ1, g.rel, q⟩
  | false => exact ⟨F1, ρ1, g.rel, q⟩

abbrev XG := D → Rho → Option Rho
abbrev TT2 := L2.St → L2.St → Prop
def tAny : TT2 := fun _ _ => True
def tOnly (vs : List Nat) : TT2 := fun σ σ' => wipe σ' vs = wipe σ vs
class TOk (T : TT2) : Prop where
  rf : ∀ σ, T σ σ
  tr : ∀ a b c, T a b → T b c → T a c
instance : TOk tAny := ⟨fun _ => trivial, fun _ _ _ _ _ => trivial⟩
instance (vs : List Nat) : TOk (tOnly vs) := ⟨fun _ => rfl, fun _ _ _ h1 h2 => h2.trans h1⟩
def lG (K : PySem.W.Frag) (T : TT2) (g : XG) : TG := fun v σ H Q => ∃ F ρ d ρ', Rel K F H ρ σ ∧ Rp K F v d ∧ g d ρ = some ρ' ∧ ∀ σ', T σ σ' → Go K ρ σ F H ρ' σ' F H → Q σ' H
def lGs (K : PySem.W.Frag) (T : TT2) (g : List D → Rho → Option Rho) : TGs := fun vs σ H Q => ∃ F ρ ds ρ', Rel K F H ρ σ ∧ RpAll K F vs ds ∧ g ds ρ = some ρ' ∧ ∀ σ', T σ σ' → Go K ρ σ F H ρ' σ' F H → Q σ' H
theorem pg_imp {e : Expr} {t t' : TG} (h : PG X e t) (k : ∀ v σ H Q, t' v σ H Q → t v σ H Q) : PG X e t' := ⟨fun pins s σ H v u Q I rv q => h.run pins s σ H v u Q I rv (k v σ H Q q)⟩
theorem pgs_imp {e : List Expr} {t t' : TGs} (h : PGs X e t) (k : ∀ v σ H Q, t' v σ H Q → t v σ H Q) : PGs X e t' := ⟨fun pins s σ H v u Q I rv q => h.run pins s σ H v u Q I rv (k v σ H Q q)⟩
def gSet (i : Nat) : XG := fun d ρ => some (ρ.set i (.val d))
theorem wipe_in {σ : L2.St} {j : Nat} : ∀ {vs : List Nat}, j ∈ vs → (wipe σ vs)[j]? = if j < σ.length then some none else none
  | [], h => by cases h
  | v :: vs, h => by
    unfold wipe
    by_cases e : v = j
    · subst e
      by_cases hl : v < σ.length
      · rw [if_pos hl, List.getElem?_set_self (by rw [wipe_length]; exact hl)]
      · rw [if_neg hl, List.getElem?_eq_none (by rw [List.length_set, wipe_length]; omega)]
    · rw [List.getElem?_set_ne e]
      exact wipe_in (by rcases List.mem_cons.mp h with z | z; exact absurd z.symm e; exact z)
theorem wipe_not {σ : L2.St} {j : Nat} : ∀ {vs : List Nat}, j ∉ vs → (wipe σ vs)[j]? = σ[j]?
  | [], _ => rfl
  | v :: vs, h => by
    unfold wipe
    rw [List.getElem?_set_ne (fun e => h (by rw [e]; exact List.mem_cons_self ..))]
    exact wipe_not (fun z => h (List.mem_cons_of_mem _ z))
theorem wipe_set {σ : L2.St} {i : Nat} {x : Option V} {vs : List Nat} (h : i ∈ vs) : wipe (σ.set i x) vs = wipe σ vs := by
  apply List.ext_getElem?
  intro j
  by_cases hj : j ∈ vs
  · rw [wipe_in hj, wipe_in hj, List.length_set]
  · rw [wipe_not hj, wipe_not hj, List.getElem?_set_ne (show i ≠ j from fun e => hj (by rw [← e]; exact h))]
class TIn (T : TT2) (i : Nat) : Prop where
  ok : ∀ (σ : L2.St) (x : Option V), T σ (σ.set i x)
instance (i : Nat) : TIn tAny i := ⟨fun _ _ => trivial⟩
theorem TIn.of {vs : List Nat} {i : Nat} (h : i ∈ vs) : TIn (tOnly vs) i := ⟨fun _ _ => wipe_set h⟩
theorem xg_nameT {T : TT2} {i : Nat} {x : Str} (h0 : i ≠ 0) (hT : TIn T i) (hN : X.N.Nodup) (hi : X.N[i]? = some x) (hx : Loc X.env.scope x) (hf : X.fn x = true ∨ X.env.scope.names.lookup x = some .local := by first | exact .inl rfl | exact .inr rfl | assumption) : PG X (.Name x pos) (lG X.K T (gSet i)) :=
  pg_imp (pg_name hN hi hx hf) fun v σ H Q h => by
    obtain ⟨F, ρ, d, ρ', r, rv, e, q⟩ := h
    cases e
    exact q _ (hT.ok _ _) (Go.setVal h0 r rv)
theorem xg_name {i : Nat} {x : Str} (hN : X.N.Nodup) (hi : X.N[i]? = some x) (hx : Loc X.env.scope x) (h0 : i ≠ 0 := by decide) (hf : X.fn x = true ∨ X.env.scope.names.lookup x = some .local := by first | exact .inl rfl | exact .inr rfl | assumption) : PG X (.Name x pos) (lG X.K tAny (gSet i)) :=
  xg_nameT h0 inferInstance hN hi hx hf
theorem xg_nameW {vs : List Nat} {i : Nat} {x : Str} (hN : X.N.Nodup) (hi : X.N[i]? = some x) (hx : Loc X.env.scope x) (hm : i ∈ vs := by decide) (h0 : i ≠ 0 := by decide) (hf : X.fn x = true ∨ X.env.scope.names.lookup x = some .local := by first | exact .inl rfl | exact .inr rfl | assumption) : PG X (.Name x pos) (lG X.K (tOnly vs) (gSet i)) :=
  xg_nameT h0 (TIn.of hm) hN hi hx hf
def gsNil : List D → Rho → Option Rho := fun ds ρ => match ds with
  | [] => some ρ
  | _ => none
def gsCons (g : XG) (gs : List D → Rho → Option Rho) : List D → Rho → Option Rho := fun ds ρ => match ds with
  | d :: r => (g d ρ).bind (gs r)
  | [] => none
theorem xgs_nil {T : TT2} [TOk T] : PGs X [] (lGs X.K T gsNil) := pgs_imp pgs_nil fun v σ H Q h => by
  obtain ⟨F, ρ, ds, ρ', r, rv, e, q⟩ := h
  cases rv with
  | nil => cases e; exact ⟨rfl, q σ (TOk.rf σ) (Go.refl r)⟩
  | cons _ _ => cases e
theorem xgs_cons {T : TT2} [TOk T] {e : Expr} {es : List Expr} {t : XG} {u : List D → Rho → Option Rho} (h1 : PG X e (lG X.K T t)) (h2 : PGs X es (lGs X.K T u))
    (hs : (assignEach (e :: es) X.env).map (·.2) = assign e X.env :: (assignEach es X.env).map (·.2) := by rfl) : PGs X (e :: es) (lGs X.K T (gsCons t u)) := pgs_imp (pgs_cons h1 h2 hs) fun v σ H Q h => by
  obtain ⟨F, ρ, ds, ρ', r, rv, e, q⟩ := h
  cases rv with
  | nil => cases e
  | cons a b =>
    rename_i v vs d ds
    unfold gsCons at e
    simp only at e
    cases q1 : t d ρ with
    | none => rw [q1] at e; cases e
    | some ρ1 =>
      rw [q1] at e
      refine ⟨v, vs, rfl, F, ρ, d, ρ1, r, a, q1, fun σ1 t1 g1 => ⟨F, ρ1, ds, ρ', g1.rel, b, e, fun σ2 t2 g2 => q σ2 (TOk.tr _ _ _ t1 t2) (g1.trans r g2)⟩⟩
def gsTup (n : Nat) (gs : List D → Rho → Option Rho) : XG := fun d ρ => match d with
  | .tup ds => if ds.length = n then gs ds ρ else none
  | _ => none
theorem xg_tup {T : TT2} {es : List Expr} {k : Nat} {t : List D → Rho → Option Rho} {n : Nat} (hc : X.calm = true) (h : PGs X es (lGs X.K T t))
    (hn : (assignEach es X.env).length = n := by rfl) (hst : (assignEach es X.env).findIdx? (·.1) = none := by rfl) : PG X (.Tuple es k pos) (lG X.K T (gsTup n t)) := pg_imp (pg_tup hc h hn hst) fun v σ H Q h => by
  obtain ⟨F, ρ, d, ρ', r, rv, e, q⟩ := h
  cases rv with
  | tup hf ra =>
    rename_i a xs ds
    unfold gsTup at e
    simp only at e
    split at e
    · rename_i hl
      exact ⟨a, xs, rfl, SqT.of (r.ex _ _ hf), ra.length.trans hl, F, ρ, ds, ρ', r, ra, e, q⟩
    · cases e
  | non => cases e
  | bl _ => cases e
  | int _ => cases e
  | str _ => cases e
  | ty _ => cases e
  | lst _ _ => cases e
  | fix _ _ => cases e
  | dicK _ _ _ => cases e
  | dicT _ _ _ => cases e
  | dicN _ _ _ _ => cases e
  | exn _ _ => cases e
  | inst _ _ _ _ => cases e
  | _ => cases e
def xAsg (te : XV) (g : XG) : XS := fun ρ => (te ρ).fl fun d ρ1 => match g d ρ1 with
  | some ρ2 => .nx ρ2
  | none => .bad
theorem asg_of {te : XV} {g : XG} {C : Ends} {σ : L2.St} {H : Hp} (h : lS X.K E fr (xAsg te g) C σ H) : tAsg (lE X.K E te) (lG X.K tAny g) C σ H := by
  obtain ⟨F, ρ, r, p⟩ := h
  refine ⟨F, ρ, r, (p.fl r).mono fun d ρ1 F1 H1 g1 q v rv => ?_⟩
  unfold PendS at q
  cases e : g d ρ1 with
  | none => simp only [e] at q
  | some ρ2 =>
    simp only [e] at q
    exact ⟨F1, ρ1, d, ρ2, g1.rel, rv, e, fun σ2 _ g2 => q σ2 F1 H1 g2⟩
theorem xs_asg {tg e : Expr} {te : XV} {g : XG} (he : PE X e (lE X.K E te)) (hg : PG X tg (lG X.K tAny g)) (hs : swapsWithSole [tg] e pos.line X.env = pure false := by rfl) (hw : swappedStores [tg] e X.env = pure none := by rfl)
    (h1 : (assignEach [tg] X.env).map (·.2) = [assign tg X.env] := by rfl) : PS X (.Assign [tg] e pos) (lS X.K E fr (xAsg te g)) := ps_imp (ps_asg he hg hs hw h1) fun C σ H h => asg_of h
abbrev xSet (i : Nat) (te : XV) : XS := xAsg te (gSet i)
theorem xs_set {i : Nat} {x : Str} {e : Expr} {te : XV} {pos' : Pos} (hN : X.N.Nodup) (hi : X.N[i]? = some x) (hx : Loc X.env.scope x) (he : PE X e (lE X.K E te)) (h0 : i ≠ 0 := by decide) (hs : swapsWith e (some (.Name x pos')) pos.line X.env = pure false := by rfl) (hf : X.fn x = true ∨ X.env.scope.names.lookup x = some .local := by first | exact .inl rfl | exact .inr rfl | assumption) :
    PS X (.Assign [.Name x pos'] e pos) (lS X.K E fr (xSet i te)) := ps_imp (ps_set hN hi hx he hs hf) fun C σ H h => by
  obtain ⟨F, ρ, r, p⟩ := h
  exact ⟨F, ρ, r, (p.fl r).mono fun d ρ1 F1 H1 g1 q v rv => q _ F1 H1 (Go.setVal h0 g1.rel rv)⟩
/-- a new object, owned -/
def xSetO (i : Nat) (te : XV) : XS := fun ρ => (te ρ).fl fun d ρ1 => .nx (ρ1.set i (.own d))
theorem seto_of {i : Nat} {te : XV} (h0 : i ≠ 0) {C : Ends} {σ : L2.St} {H : Hp} (h : lS X.K E fr (xSetO i te) C σ H) : tAsg (lN X.K E te) (gName i) C σ H := by
  obtain ⟨F, ρ, r, p⟩ := h
  refine ⟨F, ρ, r, ?_⟩
  unfold PendS xSetO at p
  unfold Pend
  split <;> rename_i e <;> simp only [e, Res.fl] at p
  · intro F1 H1 g b o h1 h2 h3 h4 h5
    exact p _ F1 H1 (Go.setOwn h0 r g h1 h2 h3 h4 h5)
  · exact fun F1 H1 g => p σ F1 H1 g
theorem xs_setO {i : Nat} {x : Str} {e : Expr} {te : XV} {pos' : Pos} (hN : X.N.Nodup) (hi : X.N[i]? = some x) (hx : Loc X.env.scope x) (he : PE X e (lN X.K E te)) (h0 : i ≠ 0 := by decide) (hs : swapsWith e (some (.Name x pos')) pos.line X.env = pure false := by rfl) (hf : X.fn x = true ∨ X.env.scope.names.lookup x = some .local := by first | exact .inl rfl | exact .inr rfl | assumption) :
    PS X (.Assign [.Name x pos'] e pos) (lS X.K E fr (xSetO i te)) := ps_imp (ps_set hN hi hx he hs hf) fun C σ H h => seto_of h0 h

def Iters (K : PySem.W.Frag) (ρ : Rho) (σ : L2.St) (F H : Hp) (ds : List D) (J : It) : Prop := ∀ ρ2 σ2 F2 H2, Go K ρ σ F H ρ2 σ2 F2 H2 →
  (∀ i d, ds[i]? = some d → J.go i H2 ∧ ∀ x H3, J.yld i H2 x H3 → ∃ F3, Gr F2 H2 F3 H3 ∧ Rp K F3 x d) ∧ ∀ i, ds.length ≤ i → J.stop i H2
def lI (K : PySem.W.Frag) (E : EW) (t : XA) : TI := fun σ H R => ∃ F ρ, Rel K F H ρ σ ∧ Pend K E t ρ σ F H fun ds ρ' F' H' => ∀ J, Iters K ρ' σ F' H' ds J → R J H'
theorem pi_imp {tg it : Expr} {t t' : TI} (h : PI X tg it t) (k : ∀ σ H Q, t' σ H Q → t σ H Q) : PI X tg it t' := ⟨fun pins s σ H Q I q => h.run pins s σ H Q I (k σ H Q q)⟩
def forRun (g : XG) (body : XS) : List D → XS
  | [], ρ => .nx ρ
  | d :: r, ρ => match g d ρ with
    | none => .bad
    | some ρ1 => match body ρ1 with
      | .nx ρ2 => forRun g body r ρ2
      | .cnt ρ2 => forRun g body r ρ2
      | .brk ρ2 => .nx ρ2
      | f => f
def xFor (ti : XA) (g : XG) (body : XS) : XS := fun ρ => (ti ρ).fl fun ds ρ1 => forRun g body ds ρ1
theorem xs_for {tg iter : Expr} {body : List Stmt} {ti : XA} {g : XG} {tb : XS} (hp : PassesOwn (model X.prog X.w) X.A X.env X.xe) (hc : X.calm = true) (hi : PI X tg iter (lI X.K E ti)) (hg : PG X tg (lG X.K tAny g)) (hb : PSs X body (lS X.K E fr tb))
    (hs : ∀ x, foldedSetIterable iter X.env x = pure x := by intro _; rfl) : PS X (.For tg iter body [] pos) (lS X.K E fr (xFor ti g tb)) := by
  refine ps_imp (ps_for hp hc hi hg hb hs) fun C σ H h => ?_
  obtain ⟨F, ρ, r, p⟩ := h
  refine ⟨F, ρ, r, (p.fl r).mono fun ds ρ1 F1 H1 g1 q J hJ => ?_⟩
  refine ⟨fun i m σ' H' => m = ds.length - i ∧ i ≤ ds.length ∧ ∃ F' ρ', Go X.K ρ1 σ F1 H1 ρ' σ' F' H' ∧ PendS X.K E fr (forRun g tb (ds.drop i)) ρ' σ' F' H' C, ⟨ds.length, by simp, Nat.zero_le _, F1, ρ1, Go.refl g1.rel, by rw [List.drop_zero]; exact q⟩, ?_⟩
  rintro i m σ' H' ⟨rfl, hi, F', ρ', gg, q'⟩
  have r' := gg.rel
  obtain ⟨z1, z2⟩ := hJ ρ' σ' F' H' gg
  by_cases hlt : i < ds.length
  · refine .inr ⟨(z1 i _ (List.getElem?_eq_getElem hlt)).1, fun σ2 H2 => i + 1 ≤ ds.length ∧ ∃ F2 ρ2, Go X.K ρ1 σ F1 H1 ρ2 σ2 F2 H2 ∧ PendS X.K E fr (forRun g tb (ds.drop (i + 1))) ρ2 σ2 F2 H2 C, fun σ2 H2 hN => ⟨ds.length - (i + 1), by omega, rfl, hN.1, hN.2⟩, fun x H3 y => ?_⟩
    obtain ⟨F3, g3, rx⟩ := (z1 i _ (List.getElem?_eq_getElem hlt)).2 x H3 y
    have go3 := g3.go r'
    rw [List.drop_eq_getElem_cons hlt] at q'
    have q' := PendS.go (t := forRun g tb (ds[i] :: ds.drop (i + 1))) r' go3 q'
    unfold PendS forRun at q'
    cases e : g ds[i] ρ' with
    | none => simp only [e] at q'
    | some ρ4 =>
      simp only [e] at q'
      refine ⟨F3, ρ', ds[i], ρ4, go3.rel, rx, e, fun σ4 _ g4 => ⟨F3, ρ4, g4.rel, ?_⟩⟩
      have tail : ∀ {σ5 F5 H5 ρ5}, Go X.K ρ4 σ4 F3 H3 ρ5 σ5 F5 H5 → PendS X.K E fr (fun _ => forRun g tb (ds.drop (i + 1)) ρ5) ρ' σ' F3 H3 C → (i + 1 ≤ ds.length ∧ ∃ F2 ρ2, Go X.K ρ1 σ F1 H1 ρ2 σ5 F2 H5 ∧ PendS X.K E fr (forRun g tb (ds.drop (i + 1))) ρ2 σ5 F2 H5 C) :=
        fun {σ5 F5 H5 ρ5} g5 k => ⟨hlt, F5, ρ5, gg.trans g1.rel (go3.trans r' (g4.trans go3.rel g5)), PendS.go go3.rel (g4.trans go3.rel g5) k⟩
      unfold PendS
      split <;> rename_i e5 <;> simp only [e5] at q'
      · exact fun σ5 F5 H5 g5 => tail g5 q'
      · exact RetP.go go3.rel g4 q'
      · exact fun σ5 F5 H5 g5 => q' σ5 F5 H5 (g4.trans go3.rel g5)
      · exact fun σ5 F5 H5 g5 => tail g5 q'
      · exact fun σ5 F5 H5 g5 => q' σ5 F5 H5 (g4.trans go3.rel g5)
  · have e : i = ds.length := by omega
    subst e
    refine .inl ⟨z2 _ (Nat.le_refl _), ?_⟩
    rw [List.drop_length] at q'
    exact q' σ' F' H' (Go.refl r')
/-- the things that are walked: lists, tuples -/
def dItems : D → Option (List D)
  | .lst ds => some ds
  | .tup ds => some ds
  | .fix ds => some ds
  | _ => none
def dItL : D → Option (List D)
  | .lst ds => some ds
  | .fix ds => some ds
  | _ => none
def dItT : D → Option (List D)
  | .tup ds => some ds
  | _ => none
theorem iters_list {K : PySem.W.Frag} {ρ : Rho} {σ : L2.St} {F H : Hp} {a : Addr} {xs : List V} {ds : List D} (h : ∀ ρ2 σ2 F2 H2, Go K ρ σ F H ρ2 σ2 F2 H2 → SqL K H2 a xs) (r : RpAll K F xs ds) : Iters K ρ σ F H ds (Itl K a) := fun ρ2 σ2 F2 H2 g =>
  ⟨fun i d hd => by
    obtain ⟨v, hv, rv⟩ := r.get hd
    exact ⟨⟨xs, v, h ρ2 σ2 F2 H2 g, hv⟩, fun x H3 y => by
      obtain ⟨e, y⟩ := y
      subst e
      have := y xs (h ρ2 σ2 F2 _ g)
      rw [hv] at this
      cases this
      exact ⟨F2, Gr.refl g.rel.ex, rv.mono g.ex⟩⟩, fun i hi => ⟨xs, h ρ2 σ2 F2 H2 g, by rw [r.length]; exact hi⟩⟩
theorem iters_tup {K : PySem.W.Frag} {ρ : Rho} {σ : L2.St} {F H : Hp} {a : Addr} {xs : List V} {ds : List D} (h : F a = some (.tup xs)) (r : RpAll K F xs ds) : Iters K ρ σ F H ds (Itt K a) := fun ρ2 σ2 F2 H2 g =>
  have q : SqT K H2 a xs := SqT.of (g.rel.ex _ _ (g.ex _ _ h))
  ⟨fun i d hd => by
    obtain ⟨v, hv, rv⟩ := r.get hd
    exact ⟨⟨xs, v, q, hv⟩, fun x H3 y => by
      obtain ⟨e, y⟩ := y
      subst e
      have := y xs q
      rw [hv] at this
      cases this
      exact ⟨F2, Gr.refl g.rel.ex, rv.mono g.ex⟩⟩, fun i hi => ⟨xs, q, by rw [r.length]; exact hi⟩⟩
/-- range(n), range(a, b) -/
def rangeD (lo : Int) (n : Nat) : List D := (List.range n).map fun i => .int (lo + (i : Nat))
/-- -(2 ^ 62) ≤ n < 2 ^ 62, told so that the kernel does not count down -/
def inR : Int → Bool
  | .ofNat m => Nat.ble m 4611686018427387903
  | .negSucc m => Nat.ble m 4611686018427387903
theorem inR_iff (n : Int) : inR n = true ↔ -(2 ^ 62) ≤ n ∧ n < 2 ^ 62 := by
  cases n with
  | ofNat m =>
    unfold inR
    simp only [Nat.ble_eq, Int.ofNat_eq_natCast]
    omega
  | negSucc m =>
    unfold inR
    simp only [Nat.ble_eq, Int.negSucc_eq]
    omega
def dRange1 : D → Option (List D)
  | .int n => if inR n = true then some (rangeD 0 n.toNat) else none
  | _ => none
def dRange2 : D → D → Option (List D)
  | .int a, .int b => if inR a = true ∧ inR b = true then some (rangeD a (b - a).toNat) else none
  | _, _ => none
def xItR1 (t : XV) : XA := fun ρ => (t ρ).bind (lift dRange1)
def xItR2 (ta tb : XV) : XA := fun ρ => (ta ρ).bind fun x ρ1 => (tb ρ1).bind (lift (dRange2 x))
theorem iters_range {K : PySem.W.Frag} {ρ : Rho} {σ : L2.St} {F H : Hp} {lo : Int} {n : Nat} : Iters K ρ σ F H (rangeD lo n) (Itr lo n) := by
  intro ρ2 σ2 F2 H2 g
  refine ⟨fun i d hd => ?_, fun i hi => ?_⟩
  · unfold rangeD at hd
    rw [List.getElem?_map] at hd
    by_cases hi : i < n
    · rw [List.getElem?_range hi] at hd
      cases hd
      refine ⟨hi, fun x H3 y => ?_⟩
      obtain ⟨e, y⟩ := y
      subst e y
      exact ⟨F2, Gr.refl g.rel.ex, .int _⟩
    · rw [List.getElem?_eq_none (by rw [List.length_range]; omega)] at hd
      cases hd
  · unfold rangeD at hi
    rw [List.length_map, List.length_range] at hi
    exact hi
theorem dRange1_of {d : D} {ds : List D} (e : dRange1 d = some ds) : ∃ n : Int, d = .int n ∧ (-(2 ^ 62) ≤ n ∧ n < 2 ^ 62) ∧ ds = rangeD 0 n.toNat := by
  unfold dRange1 at e
  split at e
  · split at e
    · rename_i n hb
      cases e
      exact ⟨n, rfl, (inR_iff n).mp hb, rfl⟩
    · cases e
  · cases e
theorem dRange2_of {d e : D} {ds : List D} (h : dRange2 d e = some ds) : ∃ a b : Int, d = .int a ∧ e = .int b ∧ ((-(2 ^ 62) ≤ a ∧ a < 2 ^ 62) ∧ -(2 ^ 62) ≤ b ∧ b < 2 ^ 62) ∧ ds = rangeD a (b - a).toNat := by
  unfold dRange2 at h
  split at h
  · split at h
    · rename_i a b hb
      cases h
      exact ⟨a, b, rfl, rfl, ⟨(inR_iff a).mp hb.1, (inR_iff b).mp hb.2⟩, rfl⟩
    · cases h
  · cases h
theorem xi_range1 {tg e : Expr} {p : Pos} {t : XV} (hg : Gl X "range") (hm : X.mg "range" = none) (ha : PE X e (lE X.K E t)) (hs : starEach [e] X.env = [(false, eval e X.env)] := by rfl) :
    PI X tg (.Call (.Name "range" p) [e] [] pos) (lI X.K E (xItR1 t)) := pi_imp (pi_range1 hg hm (pa_cons ha pa_nil hs) hs) fun σ H R h => by
  obtain ⟨F, ρ, r, p⟩ := h
  refine ⟨F, ρ, r, (Pend.bind r p).mono fun x ρ1 F1 H1 g1 q v rv => ?_⟩
  obtain ⟨d, e, q⟩ := q.lift
  obtain ⟨n, rfl, hb, rfl⟩ := dRange1_of e
  cases rv
  have := q F1 H1 (Go.refl g1.rel) _ iters_range
  exact ⟨n, rfl, hb.1, hb.2, this⟩
theorem xi_range2 {tg e e2 : Expr} {p : Pos} {t t2 : XV} (hg : Gl X "range") (hm : X.mg "range" = none) (ha : PE X e (lE X.K E t)) (hb : PE X e2 (lE X.K E t2)) (hs : starEach [e, e2] X.env = (false, eval e X.env) :: starEach [e2] X.env := by rfl)
    (hs2 : starEach [e2] X.env = [(false, eval e2 X.env)] := by rfl) (hpl : (backTo pos (starEach [e2] X.env)).any (·.1) = false := by rfl) :
    PI X tg (.Call (.Name "range" p) [e, e2] [] pos) (lI X.K E (xItR2 t t2)) := pi_imp (pi_range2 hg hm (pa_cons ha (pa_cons hb pa_nil hs2) hs) (hs.trans (by rw [hs2])) hs2) fun σ H R h => by
  obtain ⟨F, ρ, r, p⟩ := h
  refine ⟨F, ρ, r, (Pend.bind r p).mono fun x ρ1 F1 H1 g1 q v rv => ⟨F1, ρ1, g1.rel, (Pend.bind g1.rel q).mono fun y ρ2 F2 H2 g2 q w rw => ?_⟩⟩
  obtain ⟨d, e, q⟩ := q.lift
  obtain ⟨a, b, rfl, rfl, hb, rfl⟩ := dRange2_of e
  cases rv
  cases rw
  have := q F2 H2 (Go.refl g2.rel) _ iters_range
  exact ⟨a, b, rfl, ⟨hb.1.1, hb.1.2, hb.2.1, hb.2.2⟩, this⟩
end
end G


namespace G
open PySem PySem.Spec PyProof.Rows L2

def wipeR (ρ : Rho) : List Nat → Rho
  | [] => ρ
  | v :: vs => (wipeR ρ vs).set v .emp
def backR (ρ₀ ρ : Rho) : List Nat → Rho
  | [] => ρ
  | v :: vs => (backR ρ₀ ρ vs).set v (ρ₀.getD v .emp)
def noOwn (ρ : Rho) (vs : List Nat) : Bool := vs.all fun v => match ρ[v]? with
  | some (.own _) => false
  | _ => true
def Res.bindX {α β : Type} (r : Res α) (f : α → Rho → Res β) : Res β := match r with
  | .ok a ρ => f a ρ
  | _ => .bad
def xYes : XT := fun ρ => .ok true ρ
def lcRun (g : XG) (tt : XT) (te : XV) (vs : List Nat) : List D → List D → Rho → Res (List D)
  | [], acc, ρ => .ok acc ρ
  | d :: r, acc, ρ => match g d (wipeR ρ vs) with
    | none => .bad
    | some ρ1 => (tt ρ1).bindX fun b ρ2 => if b = true then (te ρ2).bindX fun y ρ3 => lcRun g tt te vs r (acc ++ [y]) (backR ρ ρ3 vs) else lcRun g tt te vs r acc (backR ρ ρ2 vs)
def xLC (ti : XA) (g : XG) (tt : XT) (te : XV) (vs : List Nat) : XV := fun ρ => (ti ρ).bind fun ds ρ1 =>
  if ds.length ≤ sizeLine ∧ noOwn ρ1 vs = true then (lcRun g tt te vs ds [] ρ1).bind fun acc ρ2 => .ok (.lst acc) ρ2 else .bad

section
variable {K : PySem.W.Frag} {F H F1 H1 : Hp} {ρ ρ1 : Rho} {σ σ1 : L2.St}
theorem wipeR_length (ρ : Rho) : ∀ vs : List Nat, (wipeR ρ vs).length = ρ.length
  | [] => rfl
  | v :: vs => by unfold wipeR; rw [List.length_set, wipeR_length ρ vs]
theorem backR_length (ρ₀ ρ : Rho) : ∀ vs : List Nat, (backR ρ₀ ρ vs).length = ρ.length
  | [] => rfl
  | v :: vs => by unfold backR; rw [List.length_set, backR_length ρ₀ ρ vs]
theorem wipeR_in {j : Nat} {s : Slot} : ∀ {vs : List Nat}, j ∈ vs → (wipeR ρ vs)[j]? = some s → s = .emp
  | [], h, _ => by cases h
  | v :: vs, h, e => by
    unfold wipeR at e
    rcases get_set e with ⟨_, q⟩ | ⟨hv, e⟩
    · exact q
    · exact wipeR_in (by rcases List.mem_cons.mp h with z | z; exact absurd z.symm hv; exact z) e
theorem wipeR_not {j : Nat} : ∀ {vs : List Nat}, j ∉ vs → (wipeR ρ vs)[j]? = ρ[j]?
  | [], _ => rfl
  | v :: vs, h => by
    unfold wipeR
    rw [List.getElem?_set_ne (fun e => h (by rw [e]; exact List.mem_cons_self ..))]
    exact wipeR_not (fun z => h (List.mem_cons_of_mem _ z))
theorem backR_in {ρ₀ : Rho} {j : Nat} {s : Slot} : ∀ {vs : List Nat}, j ∈ vs → (backR ρ₀ ρ vs)[j]? = some s → s = ρ₀.getD j .emp
  | [], h, _ => by cases h
  | v :: vs, h, e => by
    unfold backR at e
    rcases get_set e with ⟨e1, q⟩ | ⟨hv, e⟩
    · rw [← e1]; exact q
    · exact backR_in (by rcases List.mem_cons.mp h with z | z; exact absurd z.symm hv; exact z) e
theorem backR_not {ρ₀ : Rho} {j : Nat} : ∀ {vs : List Nat}, j ∉ vs → (backR ρ₀ ρ vs)[j]? = ρ[j]?
  | [], _ => rfl
  | v :: vs, h => by
    unfold backR
    rw [List.getElem?_set_ne (fun e => h (by rw [e]; exact List.mem_cons_self ..))]
    exact backR_not (fun z => h (List.mem_cons_of_mem _ z))
theorem noOwn_at {vs : List Nat} (h : noOwn ρ vs = true) {j : Nat} (hj : j ∈ vs) {d : D} (e : ρ[j]? = some (.own d)) : False := by
  have := List.all_eq_true.mp h j hj
  rw [e] at this
  cases this
theorem own_wipe {vs : List Nat} {p : Addr} (h : Own (wipeR ρ vs) (wipe σ vs) p) : Own ρ σ p := by
  obtain ⟨j, d, h1, h2⟩ := h
  by_cases hj : j ∈ vs
  · cases wipeR_in hj h1
  · rw [wipeR_not hj] at h1
    rw [wipe_not hj] at h2
    exact ⟨j, d, h1, h2⟩
theorem Rel.wipe (r : Rel K F H ρ σ) (vs : List Nat) : Rel K F H (wipeR ρ vs) (wipe σ vs) := by
  refine ⟨r.ex, by rw [wipeR_length, wipe_length]; exact r.len, fun j s o h1 h2 => ?_, fun j k d1 d2 p h1 h2 h3 h4 => ?_, fun j d p h1 h2 h3 => ?_⟩
  rotate_right
  · have g1 : j ∉ vs := fun hj => by cases wipeR_in hj h1
    rw [wipeR_not g1] at h1
    rw [wipe_not g1] at h2
    exact r.rdis j d p h1 h2 (own_wipe h3)
  · by_cases hj : j ∈ vs
    · rw [wipeR_in hj h1]; exact .emp
    · rw [wipeR_not hj] at h1
      rw [wipe_not hj] at h2
      exact r.at' j s o h1 h2
  · have g1 : j ∉ vs := fun hj => by cases wipeR_in hj h1
    have g2 : k ∉ vs := fun hj => by cases wipeR_in hj h2
    rw [wipeR_not g1] at h1
    rw [wipeR_not g2] at h2
    rw [wipe_not g1] at h3
    rw [wipe_not g2] at h4
    exact r.dis j k d1 d2 p h1 h2 h3 h4
/-- out of a turn of a comprehension: what it was given is as before, but what is owned may have changed -/
theorem Go.back {vs : List Nat} (hv0 : 0 ∉ vs) (r : Rel K F H ρ σ) (hn : noOwn ρ vs = true) (g : Go K (wipeR ρ vs) (L2.wipe σ vs) F H ρ1 σ1 F1 H1) (hw : L2.wipe σ1 vs = L2.wipe σ vs) : Go K ρ σ F H (backR ρ ρ1 vs) σ F1 H1 := by
  have same : ∀ j, j ∉ vs → σ1[j]? = σ[j]? := fun j hj => by
    have e := congrArg (fun l => l[j]?) hw
    simp only [wipe_not hj] at e
    exact e
  have lens : σ1.length = σ.length := by
    have e := congrArg List.length hw
    rw [wipe_length, wipe_length] at e
    exact e
  have ob : ∀ p, Own (backR ρ ρ1 vs) σ p → Own ρ1 σ1 p ∧ True := fun p ⟨j, d, h1, h2⟩ => by
    by_cases hj : j ∈ vs
    · have e := backR_in hj h1
      rw [List.getD_eq_getElem?_getD] at e
      cases q : ρ[j]? with
      | none => rw [q] at e; cases e
      | some s => rw [q] at e; exact (noOwn_at hn hj (q.trans (congrArg some e.symm))).elim
    · rw [backR_not hj] at h1
      exact ⟨⟨j, d, h1, (same j hj).trans h2⟩, trivial⟩
  have rdj : ∀ (j : Nat) (d : D), (backR ρ ρ1 vs)[j]? = some (.rd d) → ρ[j]? = some (.rd d) := fun j d h => by
    by_cases hj : j ∈ vs
    · have e := backR_in hj h
      rw [List.getD_eq_getElem?_getD] at e
      cases q : ρ[j]? with
      | none => rw [q] at e; cases e
      | some s => rw [q] at e; exact congrArg some e.symm
    · rw [backR_not hj] at h
      obtain ⟨k1, _⟩ := g.rdb j d h
      rw [wipeR_not hj] at k1
      exact k1
  refine ⟨⟨g.rel.ex, ?_, fun j s o h1 h2 => ?_, fun j k d1 d2 p h1 h2 h3 h4 => ?_, fun j d p h1 h2 h3 => ?_⟩, g.ex, fun a o h1 h2 h3 => g.keep a o h1 h2 fun z => h3 (own_wipe z), fun p h => ?_, rfl, fun d h => ?_, fun j d h => ⟨rdj j d h, rfl⟩⟩
  rotate_left 3
  · have k1 := rdj j d h1
    rcases g.own p (ob p h3).1 with z | z
    · exact r.rdis j d p k1 h2 (own_wipe z)
    · have y := r.at' j _ _ k1 h2
      cases y with
      | rd ra =>
        cases ra with
        | own _ y _ => rw [z] at y; cases y
        | val rp nf => exact rp_at rp nf (r.ex.free z)
  rotate_right
  rotate_right
  rotate_right
  · rw [backR_length, g.rel.len, lens]
  · by_cases hj : j ∈ vs
    · have e := backR_in hj h1
      rw [List.getD_eq_getElem?_getD] at e
      cases q : ρ[j]? with
      | none => rw [q] at e; rw [e]; exact .emp
      | some u =>
        rw [q] at e
        have e' : s = u := e
        subst e'
        have z := r.at' j s o q h2
        cases z with
        | emp => exact .emp
        | adr => exact .adr
        | val rp => exact .val (rp.mono g.ex)
        | own _ _ _ => exact (noOwn_at hn hj q).elim
        | rd ra =>
          refine .rd (ra.step g.ex fun p' u hn eq e1 e2 => ?_)
          obtain ⟨m1, m2⟩ := g.keep p' u e1 e2 fun z => by
            subst eq
            exact r.rdis j _ _ q h2 (own_wipe z)
          exact ⟨m1, m2 hn⟩
    · rw [backR_not hj] at h1
      exact g.rel.at' j s o h1 ((same j hj).trans h2)
  · have notin : ∀ (m : Nat) (e : D), (backR ρ ρ1 vs)[m]? = some (.own e) → m ∉ vs := fun m e h hm => by
      have e := backR_in hm h
      rw [List.getD_eq_getElem?_getD] at e
      cases q : ρ[m]? with
      | none => rw [q] at e; cases e
      | some u =>
        rw [q] at e
        exact noOwn_at hn hm (q.trans (congrArg some e.symm))
    have n1 := notin j d1 h1
    have n2 := notin k d2 h2
    rw [backR_not n1] at h1
    rw [backR_not n2] at h2
    exact g.rel.dis j k d1 d2 p h1 h2 ((same j n1).trans h3) ((same k n2).trans h4)
  · rcases g.own p (ob p h).1 with z | z
    · exact .inl (own_wipe z)
    · exact .inr z
  · obtain ⟨d', h'⟩ := g.lowO d (by rw [wipeR_not hv0]; exact h)
    exact ⟨d', by rw [backR_not hv0]; exact h'⟩
theorem noOwn_back {vs : List Nat} {ρ₀ : Rho} (hn : noOwn ρ₀ vs = true) : noOwn (backR ρ₀ ρ vs) vs = true := by
  refine List.all_eq_true.mpr fun j hj => ?_
  cases q : (backR ρ₀ ρ vs)[j]? with
  | none => rfl
  | some s =>
    have e := backR_in hj q
    rw [List.getD_eq_getElem?_getD] at e
    cases q2 : ρ₀[j]? with
    | none => rw [q2] at e; rw [e]; rfl
    | some u =>
      rw [q2] at e
      have e' : s = u := e
      subst e'
      have := List.all_eq_true.mp hn j hj
      rw [q2] at this
      exact this
theorem rd_new {p : Addr} (r : Rel K F H ρ σ) (g : Go K ρ σ F H ρ1 σ1 F1 H1) (h0 : H p = none) (j : Nat) (d : D) (h1 : ρ1[j]? = some (.rd d)) (h2 : σ1[j]? = some (some (.ref p))) : False := by
  obtain ⟨k1, k2⟩ := g.rdb j d h1
  rw [k2] at h2
  have y := r.at' j _ _ k1 h2
  cases y with
  | rd ra =>
    cases ra with
    | own _ y _ => rw [h0] at y; cases y
    | val rp nf => exact rp_at rp nf (r.ex.free h0)
/-- an object that was not known at the start changes -/
theorem Go.touch {p : Addr} {o o' : HO} (r : Rel K F H ρ σ) (g : Go K ρ σ F H ρ1 σ1 F1 H1) (h0 : H p = none) (hf : F1 p = none) (hh : H1 p = some o) (hn : ¬ Own ρ1 σ1 p) : Go K ρ σ F H ρ1 σ1 F1 (upd H1 p o') := by
  refine ⟨⟨fun b u q => by rw [upd_ne (ne_of_none q hf)]; exact g.rel.ex b u q, g.rel.len, fun j s v h1 h2 => ?_, g.rel.dis, g.rel.rdis⟩, g.ex, fun a u h1 h2 h3 => ?_, g.own, g.low, g.lowO, g.rdb⟩
  · have z := g.rel.at' j s v h1 h2
    cases z with
    | emp => exact .emp
    | adr => exact .adr
    | val rp => exact .val rp
    | own z1 z2 z3 =>
      refine .own z1 ?_ z3
      rw [upd_ne]
      · exact z2
      · rintro rfl
        exact hn ⟨j, _, h1, h2⟩
    | rd ra =>
      refine .rd (ra.step (Same.refl F1) fun q u _ eq e1 e2 => ⟨?_, e2⟩)
      subst eq
      rw [upd_ne]
      · exact e1
      · rintro rfl
        exact rd_new r g h0 j _ h1 h2
  · obtain ⟨q1, q2⟩ := g.keep a u h1 h2 h3
    refine ⟨?_, q2⟩
    rw [upd_ne (ne_of_none h1 h0)]
    exact q1
end
section
variable {X : Cx} {E : EW} {fr : Bool} {pos : Pos}
abbrev E0 : EW := fun _ _ _ => False
theorem Pend.bindX {K : PySem.W.Frag} {σ : L2.St} {F H : Hp} {ρ : Rho} {α β : Type} {t : Rho → Res α} {f : α → Rho → Res β} {Q : β → Rho → Hp → Hp → Prop} (r : Rel K F H ρ σ) (h : Pend K E (fun ρ => (t ρ).bindX f) ρ σ F H Q) :
    Pend K E0 t ρ σ F H fun a ρ1 F1 H1 => Pend K E (f a) ρ1 σ F1 H1 Q := by
  unfold Pend at h ⊢
  split <;> rename_i e <;> simp only [e, Res.bindX] at h
  intro F1 H1 g
  split <;> rename_i e2 <;> rw [e2] at h
  · exact fun F2 H2 g2 => h F2 H2 (g.trans r g2)
  · exact fun F2 H2 g2 => h F2 H2 (g.trans r g2)
  · exact h
theorem Pend.go {K : PySem.W.Frag} {σ : L2.St} {F H F1 H1 : Hp} {ρ ρ1 : Rho} {α : Type} {t : Rho → Res α} {Q : α → Rho → Hp → Hp → Prop} (r : Rel K F H ρ σ) (g : Go K ρ σ F H ρ1 σ F1 H1) (h : Pend K E (fun _ => t ρ1) ρ σ F H Q) : Pend K E t ρ1 σ F1 H1 Q := by
  unfold Pend at h ⊢
  split <;> rename_i e2 <;> rw [e2] at h
  · exact fun F2 H2 g2 => h F2 H2 (g.trans r g2)
  · exact fun F2 H2 g2 => h F2 H2 (g.trans r g2)
  · exact h
/-- a run that is already known -/
abbrev PendR (K : PySem.W.Frag) (E : EW) {α : Type} (x : Res α) (ρ : Rho) (σ : L2.St) (F H : Hp) (Q : α → Rho → Hp → Hp → Prop) : Prop := Pend K E (fun _ => x) ρ σ F H Q
theorem PendR.bindX {K : PySem.W.Frag} {σ σ4 : L2.St} {F H F3 H3 : Hp} {ρ ρ4 : Rho} {α β : Type} {t : Rho → Res α} {f : α → Rho → Res β} {Q : β → Rho → Hp → Hp → Prop} (h : PendR K E ((t ρ4).bindX f) ρ σ F H Q) :
    Pend K E0 t ρ4 σ4 F3 H3 fun a ρ5 _ _ => PendR K E (f a ρ5) ρ σ F H Q := by
  unfold PendR Pend at h
  unfold Pend
  cases e : t ρ4 with
  | ok a ρ5 =>
    rw [e] at h
    exact fun _ _ _ => h
  | exc c ρ5 => rw [e] at h; exact h.elim
  | bad => rw [e] at h; exact h.elim
theorem wipe_wipe (σ : L2.St) (vs : List Nat) : wipe (wipe σ vs) vs = wipe σ vs := by
  apply List.ext_getElem?
  intro j
  by_cases hj : j ∈ vs
  · rw [wipe_in hj, wipe_in hj, wipe_length]
  · rw [wipe_not hj]
theorem lc_of {ti : XA} {g : XG} {tt : XT} {te : XV} {vs : List Nat} (hv0 : 0 ∉ vs) {σ : L2.St} {H : Hp} {Q : VK} (h : lN X.K E (xLC ti g tt te vs) σ H Q) : tLc (lI X.K E ti) (lG X.K (tOnly vs) g) (lT X.K E0 tt) (lE X.K E0 te) vs σ H Q := by
  obtain ⟨F, ρ, r, p⟩ := h
  refine ⟨F, ρ, r, (Pend.bind r p).mono fun ds ρ1 F1 H1 g1 q J hJ A hA => ?_⟩
  by_cases hc : ds.length ≤ sizeLine ∧ noOwn ρ1 vs = true
  rotate_left
  · unfold Pend at q
    simp only [hc, if_false] at q
  obtain ⟨hz, hno⟩ := hc
  have r1 := g1.rel
  have hAF : F1 A = none := r1.ex.free hA
  have q0 : PendR X.K E (lcRun g tt te vs ds [] ρ1) ρ1 σ F1 H1 fun acc ρ' F' H' => ∀ p o, F' p = none → H' p = some o → Ro X.K F' p o (.lst acc) → ¬ Own ρ' σ p → (Own ρ σ p ∨ H p = none) → Q (.ref p) H' := by
    unfold Pend at q
    simp only [hz, hno, and_self, if_true] at q
    unfold PendR Pend
    cases e : lcRun g tt te vs ds [] ρ1 with
    | ok a ρ5 => rw [e] at q; exact q
    | exc c ρ5 => rw [e] at q; exact q
    | bad => rw [e] at q; exact q
  have start := (Gr.newO (o := .lst []) r1.ex hA).go r1
  refine ⟨fun i m H' => m = ds.length - i ∧ i ≤ ds.length ∧ ∃ F' ρ' acc xs, Go X.K ρ1 σ F1 H1 ρ' σ F' H' ∧ noOwn ρ' vs = true ∧ F' A = none ∧ H' A = some (.lst xs) ∧ RpAll X.K F' xs acc ∧ acc.length ≤ i ∧ ¬ Own ρ' σ A ∧
    PendR X.K E (lcRun g tt te vs (ds.drop i) acc ρ') ρ1 σ F1 H1 fun acc ρ' F' H' => ∀ p o, F' p = none → H' p = some o → Ro X.K F' p o (.lst acc) → ¬ Own ρ' σ p → (Own ρ σ p ∨ H p = none) → Q (.ref p) H', ⟨ds.length, by simp, Nat.zero_le _, F1, ρ1, [], [], start, hno, hAF, upd_same, .nil, Nat.le_refl _, not_own_new r1 hA, by rw [List.drop_zero]; exact q0⟩, ?_⟩
  rintro i m H' ⟨rfl, hi, F', ρ', acc, xs, go, hno', hf, hh, ra, hl, hn, q'⟩
  have r' := go.rel
  obtain ⟨z1, z2⟩ := hJ ρ' σ F' H' go
  by_cases hlt : i < ds.length
  · refine .inr ⟨(z1 i _ (List.getElem?_eq_getElem hlt)).1, fun H2 => i + 1 ≤ ds.length ∧ ∃ F' ρ' acc xs, Go X.K ρ1 σ F1 H1 ρ' σ F' H2 ∧ noOwn ρ' vs = true ∧ F' A = none ∧ H2 A = some (.lst xs) ∧ RpAll X.K F' xs acc ∧ acc.length ≤ i + 1 ∧ ¬ Own ρ' σ A ∧
      PendR X.K E (lcRun g tt te vs (ds.drop (i + 1)) acc ρ') ρ1 σ F1 H1 fun acc ρ' F' H' => ∀ p o, F' p = none → H' p = some o → Ro X.K F' p o (.lst acc) → ¬ Own ρ' σ p → (Own ρ σ p ∨ H p = none) → Q (.ref p) H', fun H2 hN => ⟨ds.length - (i + 1), by omega, rfl, hN.1, hN.2⟩, fun x H3 y => ?_⟩
    obtain ⟨F3, g3, rx⟩ := (z1 i _ (List.getElem?_eq_getElem hlt)).2 x H3 y
    have go3 := go.trans r1 (g3.go r')
    rw [List.drop_eq_getElem_cons hlt] at q'
    have fD3 : F3 A = none := g3.keep A _ nt_lst hh hf
    have hD3 : H3 A = some (.lst xs) := g3.exH A _ hh
    have rw3 := go3.rel.wipe vs
    unfold lcRun at q'
    cases e : g ds[i] (wipeR ρ' vs) with
    | none => unfold PendR Pend at q'; simp only [e] at q'
    | some ρ4 =>
      simp only [e] at q'
      refine ⟨F3, wipeR ρ' vs, ds[i], ρ4, rw3, rx, e, fun σ4 t4 g4 => ⟨(show wipe σ4 vs = wipe (wipe σ vs) vs from t4).trans (wipe_wipe σ vs), F3, ρ4, g4.rel, (PendR.bindX q').mono fun b ρ5 F5 H5 g5 q5 => ?_⟩⟩
      have hw4 : wipe σ4 vs = wipe σ vs := (show wipe σ4 vs = wipe (wipe σ vs) vs from t4).trans (wipe_wipe σ vs)
      have nb : ∀ {ρ5 F5 H5}, Go X.K ρ4 σ4 F3 H3 ρ5 σ4 F5 H5 → Go X.K ρ1 σ F1 H1 (backR ρ' ρ5 vs) σ F5 H5 ∧ F5 A = none ∧ H5 A = some (.lst xs) ∧ ¬ Own (backR ρ' ρ5 vs) σ A ∧ Same F' F5 := fun {ρ5 F5 H5} g5 => by
        have gg := g4.trans rw3 g5
        have b := Go.back hv0 go3.rel hno' gg hw4
        obtain ⟨k1, k2⟩ := b.keep A _ hD3 fD3 hn
        refine ⟨go3.trans r1 b, k2 nt_lst, k1, fun z => ?_, g3.ex.trans b.ex⟩
        rcases b.own A z with z | z
        · exact hn z
        · rw [hD3] at z; cases z
      cases b with
      | false =>
        obtain ⟨n1, n2, n3, n4, n5⟩ := nb g5
        exact ⟨hlt, F5, _, acc, xs, n1, noOwn_back hno', n2, n3, ra.mono n5, Nat.le_succ_of_le hl, n4, q5⟩
      | true =>
        refine ⟨F5, ρ5, g5.rel, (PendR.bindX q5).mono fun y ρ6 F6 H6 g6 q6 v rv => ?_⟩
        obtain ⟨n1, n2, n3, n4, n5⟩ := nb (g5.trans g4.rel g6)
        refine ⟨xs, n3, ?_, hlt, F6, _, acc ++ [y], xs ++ [v], n1.touch r1 hA n2 n3 n4, noOwn_back hno', n2, upd_same, (ra.mono n5).snoc rv, ?_, n4, q6⟩
        · rw [ra.length]
          omega
        · rw [List.length_append]
          simp only [List.length_cons, List.length_nil]
          omega
  · have e : i = ds.length := by omega
    subst e
    refine .inl ⟨z2 _ (Nat.le_refl _), ?_⟩
    rw [List.drop_length] at q'
    exact q' F' H' go A _ hf hh (.lst ra) hn (own_back r g1 (.inr hA))
theorem xn_lc {elt tg iter : Expr} {ifs : List Expr} {scope : Scope} {own : List (Str × Nat)} {ti : XA} {g : XG} {tt : XT} {te : XV} (hc : X.calm = true) (hN : X.N.Nodup) (hi : PI X tg iter (lI X.K E ti)) (ok : BlkOk X.N X.env.scope scope own)
    (hg : ∀ (s : Shared) (H : Hp) (C : Addr) (cl : List (Str × Addr)) (fp : List Addr), PG (X.blk s H scope (compEnvC scope cl C X.env) fp) tg (lG X.K (tOnly (own.map (·.2))) g)) (ht : ∀ (s : Shared) (H : Hp) (C : Addr) (cl : List (Str × Addr)) (fp : List Addr), PTs (X.blk s H scope (compEnvC scope cl C X.env) fp) ifs (lT X.K E0 tt))
    (he : ∀ (s : Shared) (H : Hp) (C : Addr) (cl : List (Str × Addr)) (fp : List Addr), PE (X.blk s H scope (compEnvC scope cl C X.env) fp) elt (lE X.K E0 te)) (hv0 : 0 ∉ own.map (·.2) := by decide) (hs : ∀ x, foldedSetIterable iter X.env x = pure x := by intro _; rfl) :
    PE X (.ListComp elt [⟨tg, iter, ifs, 0⟩] scope pos) (lN X.K E (xLC ti g tt te (own.map (·.2)))) := pe_imp (pe_lc hc hN hi ok hg ht he hs) fun σ H Q h => lc_of hv0 h
/-- .. not owned -/
theorem xs_setLc {i : Nat} {y : Str} {py spos : Pos} {elt tg iter : Expr} {ifs : List Expr} {scope : Scope} {own : List (Str × Nat)} {ti : XA} {g : XG} {tt : XT} {te : XV} (h0 : i ≠ 0) (hc : X.calm = true) (hN : X.N.Nodup) (hy : X.N[i]? = some y) (hyl : X.env.scope.names.lookup y = some .local)
    (hsw : swapsWith (.ListComp elt [⟨tg, iter, ifs, 0⟩] scope pos) (some (.Name y py)) spos.line X.env = pure true) (hi : PI X tg iter (lI X.K E ti)) (ok : BlkOk X.N X.env.scope scope own)
    (hg : ∀ (s : Shared) (H : Hp) (C : Addr) (cl : List (Str × Addr)) (fp : List Addr), PG (X.blk s H scope (compEnvC scope cl C X.env) fp) tg (lG X.K (tOnly (own.map (·.2))) g)) (ht : ∀ (s : Shared) (H : Hp) (C : Addr) (cl : List (Str × Addr)) (fp : List Addr), PTs (X.blk s H scope (compEnvC scope cl C X.env) fp) ifs (lT X.K E0 tt))
    (he : ∀ (s : Shared) (H : Hp) (C : Addr) (cl : List (Str × Addr)) (fp : List Addr), PE (X.blk s H scope (compEnvC scope cl C X.env) fp) elt (lE X.K E0 te)) (hv0 : 0 ∉ own.map (·.2) := by decide) (hs : ∀ x, foldedSetIterable iter X.env x = pure x := by intro _; rfl) :
    PS X (.Assign [.Name y py] (.ListComp elt [⟨tg, iter, ifs, 0⟩] scope pos) spos) (lS X.K E fr (xSet i (xLC ti g tt te (own.map (·.2))))) := ps_imp (ps_setLc hc hN hy hyl hsw hi ok hg ht he hs) fun C σ H h => by
  have h2 : lE X.K E (xLC ti g tt te (own.map (·.2))) σ H (fun x H1 => gName i x σ H1 C.nx) := by
    obtain ⟨F, ρ, r, p⟩ := h
    exact ⟨F, ρ, r, (p.fl r).mono fun d ρ1 F1 H1 g1 q v rv => q _ F1 H1 (Go.setVal h0 g1.rel rv)⟩
  exact lc_of hv0 (lE_of_lN h2)
theorem xts_nil : PTs X [] (lT X.K E xYes) := ⟨fun pins s σ H Q I h => pts_nil.run pins s σ H Q I (by
  obtain ⟨F, ρ, r, p⟩ := h
  exact p F H (Go.refl r))⟩
theorem xts_one {c : Expr} {t : XT} (h : PT X c (lT X.K E t)) : PTs X [c] (lT X.K E t) := pts_one h

def ownL (i : Nat) (ρ : Rho) : Option (List D) := match ρ[i]? with
  | some (.own (.lst ds)) => some ds
  | _ => none
theorem ownL_of {i : Nat} {ρ : Rho} {ds : List D} (h : ownL i ρ = some ds) : ρ[i]? = some (.own (.lst ds)) := by
  unfold ownL at h
  split at h
  · rename_i e
    cases h
    exact e
  · cases h
/-- with the list of slot i -/
def withL (i : Nat) (f : List D → XS) : XS := fun ρ => match ownL i ρ with
  | some ds => f ds ρ
  | none => .bad
def xAppend (i : Nat) (te : XV) : XS := withL i fun _ ρ => (te ρ).fl fun d => withL i fun ds ρ1 => if ds.length < sizeLine then .nx (ρ1.set i (.own (.lst (ds ++ [d])))) else .bad
theorem own_lst {K : PySem.W.Frag} {F : Hp} {p : Addr} {o : HO} {ds : List D} (r : Ro K F p o (.lst ds)) : ∃ xs, o = .lst xs ∧ RpAll K F xs ds := by
  cases r with
  | lst r => exact ⟨_, rfl, r⟩
theorem Rel.ownL {K : PySem.W.Frag} {F H : Hp} {ρ : Rho} {σ : L2.St} {i : Nat} {ds : List D} (r : Rel K F H ρ σ) (h : ρ[i]? = some (.own (.lst ds))) : ∃ p xs, σ[i]? = some (some (.ref p)) ∧ F p = none ∧ H p = some (.lst xs) ∧ RpAll K F xs ds := by
  obtain ⟨p, o, h1, h2, h3, h4⟩ := r.own h
  obtain ⟨xs, rfl, h5⟩ := own_lst h4
  exact ⟨p, xs, h1, h2, h3, h5⟩
theorem PendS.withL {K : PySem.W.Frag} {F H : Hp} {ρ : Rho} {σ : L2.St} {i : Nat} {f : List D → XS} {C : Ends} (h : PendS K E fr (withL i f) ρ σ F H C) : ∃ ds, ρ[i]? = some (.own (.lst ds)) ∧ PendS K E fr (f ds) ρ σ F H C := by
  unfold PendS G.withL at h
  cases e : ownL i ρ with
  | none => simp only [e] at h
  | some ds => simp only [e] at h; exact ⟨ds, ownL_of e, h⟩
theorem PendS.ite {K : PySem.W.Frag} {F H : Hp} {ρ : Rho} {σ : L2.St} {c : Prop} [Decidable c] {t : XS} {C : Ends} (h : PendS K E fr (fun ρ => if c then t ρ else .bad) ρ σ F H C) : c ∧ PendS K E fr t ρ σ F H C := by
  unfold PendS at h
  by_cases hc : c
  · simp only [hc, if_true] at h
    exact ⟨hc, h⟩
  · simp only [hc, if_false] at h
/-- x.append(e) -/
theorem xs_append {i : Nat} {x : Str} {e : Expr} {te : XV} {xp apos p2 : Pos} (hN : X.N[i]? = some x) (hv : Vis X.env.scope x) (he : PE X e (lE X.K E te))
    (hs : PE X (.Call (.Attribute (.Name x xp) "append" apos) [e] [] p2) (tBM X.K "list" rAppend (tVar i) (tCons (lE X.K E te) tNil))) (hq : swapsWith (.Call (.Attribute (.Name x xp) "append" apos) [e] [] p2) none pos.line X.env = pure false := by rfl) :
    PS X (.Expr (.Call (.Attribute (.Name x xp) "append" apos) [e] [] p2) pos) (lS X.K E fr (xAppend i te)) := ps_imp (ps_expr hs hq) fun C σ H h => by
  obtain ⟨F, ρ, r, p⟩ := h
  obtain ⟨ds0, e0, p⟩ := PendS.withL p
  obtain ⟨b, xs, h1, h2, h3, h4⟩ := r.ownL e0
  refine ⟨.ref b, h1, .inl ⟨rfl, xs, SqL.of h3⟩, F, ρ, r, (PendS.fl r p).mono fun d ρ1 F1 H1 g1 q v rv => ?_⟩
  obtain ⟨ds, e1, q⟩ := PendS.withL q
  obtain ⟨b1, xs1, k1, k2, k3, k4⟩ := g1.rel.ownL e1
  rw [h1] at k1
  cases k1
  obtain ⟨hz, q⟩ := PendS.ite q
  refine ⟨b, xs1, v, rfl, rfl, k3, by rw [k4.length]; exact hz, ?_⟩
  exact q σ F1 _ (Go.mut g1.rel e1 h1 k2 k3 (.lst (k4.snoc rv)))
/-- a method without arguments that changes an owned list: reverse, clear -/
def xMut (i : Nat) (f : List D → List D) : XS := withL i fun ds ρ => .nx (ρ.set i (.own (.lst (f ds))))
/-- xs[k] = e -/
def dSetAt (ds : List D) (k d : D) : Option (List D) := match k with
  | .int j => (ixN ds.length j).map fun m => ds.set m d
  | _ => none
def xSetIx (i : Nat) (tk te : XV) : XS := fun ρ => (te ρ).fl fun d => withL i fun _ ρ1 => (tk ρ1).fl fun k => withL i fun ds ρ2 => match dSetAt ds k d with
  | some ds' => .nx (ρ2.set i (.own (.lst ds')))
  | none => .bad
theorem xs_setIx {i : Nat} {x : Str} {k e : Expr} {tk te : XV} {xp sp : Pos} (hN : X.N[i]? = some x) (hv : Vis X.env.scope x) (ho : PE X (.Name x xp) (tVar i)) (hk : PE X k (lE X.K E tk)) (he : PE X e (lE X.K E te))
    (ha : ∀ v, assign (.Subscript (.Name x xp) k sp) X.env v = (do
      let ov ← holding [v] (eval (.Name x xp) X.env)
      let iv ← holding [v, ov] (eval k X.env)
      standAt sp
      holding [v, ov, iv] (setItem ov iv v)
      release [v, ov, iv] []) := by intro _; rfl)
    (hs : swapsWithSole [.Subscript (.Name x xp) k sp] e pos.line X.env = pure false := by rfl) (hw : swappedStores [.Subscript (.Name x xp) k sp] e X.env = pure none := by rfl)
    (h1 : (assignEach [.Subscript (.Name x xp) k sp] X.env).map (·.2) = [assign (.Subscript (.Name x xp) k sp) X.env] := by rfl) :
    PS X (.Assign [.Subscript (.Name x xp) k sp] e pos) (lS X.K E fr (xSetIx i tk te)) := ps_imp (ps_asg he (pg_sub ho hk set_list ha) hs hw h1) fun C σ H h => by
  obtain ⟨F, ρ, r, p⟩ := h
  refine ⟨F, ρ, r, (PendS.fl r p).mono fun d ρ1 F1 H1 g1 q v rv => ?_⟩
  obtain ⟨ds0, e0, q⟩ := PendS.withL q
  obtain ⟨b, xs, z1, z2, z3, z4⟩ := g1.rel.ownL e0
  refine ⟨.ref b, z1, F1, ρ1, g1.rel, (PendS.fl g1.rel q).mono fun kd ρ2 F2 H2 g2 q w rw => ?_⟩
  obtain ⟨ds, e1, q⟩ := PendS.withL q
  obtain ⟨b1, xs1, k1, k2, k3, k4⟩ := g2.rel.ownL e1
  rw [z1] at k1
  cases k1
  unfold PendS at q
  cases e2 : dSetAt ds kd d with
  | none => simp only [e2] at q
  | some ds' =>
    simp only [e2] at q
    unfold dSetAt at e2
    split at e2
    · rename_i j
      cases e3 : ixN ds.length j with
      | none => rw [e3] at e2; cases e2
      | some m =>
        rw [e3] at e2
        cases e2
        cases rw
        refine ⟨b, xs1, j, m, rfl, rfl, k3, by rw [k4.length]; exact e3, ?_⟩
        exact q σ F2 _ (Go.mut g2.rel e1 z1 k2 k3 (.lst (RpAll.set (rv.mono g2.ex) m k4)))
    · cases e2
/-- xs[k] of an owned list -/
def dAt (ds : List D) (k : D) : Option D := match k with
  | .int j => atI ds j
  | _ => none
/-- the list that can be read at slot i -/
def rdL (i : Nat) (ρ : Rho) : Option (List D) := match rdD i ρ with
  | some (.lst ds) => some ds
  | _ => none
theorem Rel.rdL {K : PySem.W.Frag} {F H : Hp} {ρ : Rho} {σ : L2.St} {i : Nat} {ds : List D} (r : Rel K F H ρ σ) (h : rdL i ρ = some ds) : ∃ p xs, σ[i]? = some (some (.ref p)) ∧ SqL K H p xs ∧ RpAll K F xs ds := by
  unfold G.rdL at h
  split at h
  · rename_i e
    cases h
    obtain ⟨v, h1, h2⟩ := r.rd e
    cases h2 with
    | val rp _ => cases rp with | lst hf ra => exact ⟨_, _, h1, SqL.of (r.ex _ _ hf), ra⟩
    | own a b c =>
      obtain ⟨xs, rfl, h5⟩ := own_lst c
      exact ⟨_, xs, h1, SqL.of b, h5⟩
  · cases h
def withR {α : Type} (i : Nat) (f : List D → Rho → Res α) : Rho → Res α := fun ρ => match rdL i ρ with
  | some ds => f ds ρ
  | none => .bad
theorem Pend.withR {α : Type} {K : PySem.W.Frag} {F H : Hp} {ρ : Rho} {σ : L2.St} {i : Nat} {f : List D → Rho → Res α} {Q : α → Rho → Hp → Hp → Prop} (h : Pend K E (withR i f) ρ σ F H Q) : ∃ ds, rdL i ρ = some ds ∧ Pend K E (f ds) ρ σ F H Q := by
  unfold Pend G.withR at h
  cases e : G.rdL i ρ with
  | none => simp only [e] at h
  | some ds => simp only [e] at h; exact ⟨ds, rfl, h⟩
def xIxO (i : Nat) (tk : XV) : XV := withR i fun _ ρ => (tk ρ).bind fun k => withR i fun ds => lift (dAt ds) k
theorem atI_rp {K : PySem.W.Frag} {F : Hp} {xs : List V} {ds : List D} {j : Int} {d : D} (r : RpAll K F xs ds) (h : atI ds j = some d) : ∃ v, atI xs j = some v ∧ Rp K F v d := by
  unfold atI at h ⊢
  rw [r.length]
  cases e : ixN ds.length j with
  | none => rw [e] at h; cases h
  | some m =>
    rw [e] at h
    exact r.get h
theorem dAt_of {ds : List D} {k d : D} (h : dAt ds k = some d) : ∃ j : Int, k = .int j ∧ atI ds j = some d := by
  unfold dAt at h
  split at h
  · exact ⟨_, rfl, h⟩
  · cases h
theorem xe_ixO {i : Nat} {x : Str} {k : Expr} {tk : XV} {xp : Pos} (ho : PE X (.Name x xp) (tVar i)) (hk : PE X k (lE X.K E tk)) (hs : PlainIx k) : PE X (.Subscript (.Name x xp) k pos) (lE X.K E (xIxO i tk)) := pe_imp (pe_ix ix_list ho hk hs) fun σ H Q h => by
  obtain ⟨F, ρ, r, p⟩ := h
  obtain ⟨ds0, e0, p⟩ := Pend.withR p
  obtain ⟨b, xs, z1, z3, z4⟩ := r.rdL e0
  refine ⟨.ref b, z1, F, ρ, r, (Pend.bind r p).mono fun kd ρ1 F1 H1 g1 q w rw => ?_⟩
  obtain ⟨ds, e1, q⟩ := Pend.withR q
  obtain ⟨b1, xs1, k1, k3, k4⟩ := g1.rel.rdL e1
  rw [z1] at k1
  cases k1
  obtain ⟨d, e, q2⟩ := q.lift
  obtain ⟨j, rfl, e⟩ := dAt_of e
  cases rw
  obtain ⟨v, hv, rv⟩ := atI_rp k4 e
  exact ⟨b, xs1, j, v, rfl, rfl, k3, hv, q2 F1 H1 (Go.refl g1.rel) v rv⟩
/-- len of an owned list -/
def xLenO (i : Nat) : XV := withR i fun ds ρ => .ok (.int (ds.length : Nat)) ρ
end

inductive FR where
  | ok (d : D) (ps : List D) | exc (c : String) (ps : List D) | bad
abbrev DF := List D → FR
/-- the arguments of a def: md tells which ones are only read -/
inductive RaL (K : PySem.W.Frag) (F H : Hp) (no : Addr → Prop) : List Bool → List V → List D → Prop
  | nil : RaL K F H no [] [] []
  | val {v : V} {d : D} {ms : List Bool} {vs : List V} {ds : List D} : Rp K F v d → RaL K F H no ms vs ds → RaL K F H no (false :: ms) (v :: vs) (d :: ds)
  | rd {v : V} {d : D} {ms : List Bool} {vs : List V} {ds : List D} : Ra K F H v d → (∀ p, v = .ref p → ¬ no p) → RaL K F H no ms vs ds → RaL K F H no (true :: ms) (v :: vs) (d :: ds)
def Slot.of : Bool → D → Slot
  | false, d => .val d
  | true, d => .rd d
def ini : List Bool → List D → Option (List Slot)
  | [], [] => some []
  | m :: ms, d :: ds => (ini ms ds).map (Slot.of m d :: ·)
  | _, _ => none
section
variable (K : PySem.W.Frag) (cv : String → Value) (fr : Bool)
def Out (F H : Hp) (d : D) (Q : VK) : Prop := (fr = false → OutV K F H d Q) ∧ (fr = true → OutN K F H d Q)
/-- a def that changes nothing -/
def spP (md : List Bool) (g : DF) : Sp := fun vs H Q E => ∃ F ds, Same F H ∧ RaL K F H (fun _ => False) md vs ds ∧ match g ds with
  | .ok d _ => Out K fr F H d Q
  | .exc c _ => ∀ F' H', Gr F H F' H' → E (cv c) none H'
  | .bad => False
structure GrB (b : Addr) (F H F' H' : Hp) : Prop where
  ex : Same F F'
  sub : Same F' H'
  keep : ∀ a o, a ≠ b → H a = some o → H' a = some o ∧ (NTup o → F a = none → F' a = none)
/-- a def that changes its first argument -/
def spB (md : List Bool) (g : DF) : Sp := fun vs H Q E => ∃ F b o d0 vs' ds, vs = .ref b :: vs' ∧ Same F H ∧ F b = none ∧ H b = some o ∧ Ro K F b o d0 ∧ RaL K F H (· = b) md vs' ds ∧ match g (d0 :: ds) with
  | .ok d [p'] => ∀ F' H' o', GrB b F H F' H' → F' b = none → H' b = some o' → Ro K F' b o' p' → (fr = false → ∀ v, Rp K F' v d → Q v H') ∧ (fr = true → ∀ p o2, H p = none → F' p = none → H' p = some o2 → Ro K F' p o2 d → Q (.ref p) H')
  | .exc c [p'] => ∀ F' H' o', GrB b F H F' H' → F' b = none → H' b = some o' → Ro K F' b o' p' → E (cv c) none H'
  | _ => False
end
def runP (md : List Bool) (n : Nat) (fr : Bool) (body : XS) : DF := fun ds => match ini md ds with
  | some ss => (match body (ss ++ List.replicate (n - ss.length) .emp) with
    | .ret d _ => .ok d []
    | .nx _ => if fr = true then .bad else .ok .non []
    | .exc c _ => .exc c []
    | _ => .bad)
  | none => .bad
def slot0 (ρ : Rho) : List D := match ρ with
  | .own p :: _ => [p]
  | _ => []
def runB (md : List Bool) (n : Nat) (fr : Bool) (body : XS) : DF
  | d0 :: ds => (match ini md ds with
    | some ss => (match body (.own d0 :: ss ++ List.replicate (n - (ss.length + 1)) .emp) with
      | .ret d ρ => .ok d (slot0 ρ)
      | .nx ρ => if fr = true then .bad else .ok .non (slot0 ρ)
      | .exc c ρ => .exc c (slot0 ρ)
      | _ => .bad)
    | none => .bad)
  | [] => .bad
theorem RaL.len {K : PySem.W.Frag} {F H : Hp} {no : Addr → Prop} : ∀ {md : List Bool} {vs : List V} {ds : List D}, RaL K F H no md vs ds → vs.length = md.length ∧ ds.length = md.length
  | _, _, _, .nil => ⟨rfl, rfl⟩
  | _, _, _, .val _ r => ⟨congrArg (· + 1) r.len.1, congrArg (· + 1) r.len.2⟩
  | _, _, _, .rd _ _ r => ⟨congrArg (· + 1) r.len.1, congrArg (· + 1) r.len.2⟩
theorem ini_len : ∀ {md : List Bool} {ds : List D} {ss : List Slot}, ini md ds = some ss → ss.length = md.length
  | [], [], _, h => by cases h; rfl
  | m :: ms, d :: ds, _, h => by
    unfold ini at h
    cases q : ini ms ds with
    | none => rw [q] at h; cases h
    | some ss => rw [q] at h; cases h; exact congrArg (· + 1) (ini_len q)
  | [], _ :: _, _, h => by cases h
  | _ :: _, [], _, h => by cases h
/-- slot by slot -/
theorem ini_at {K : PySem.W.Frag} {F H : Hp} {no : Addr → Prop} : ∀ {md : List Bool} {vs : List V} {ds : List D} {ss : List Slot}, RaL K F H no md vs ds → ini md ds = some ss → ∀ (j : Nat) (s : Slot), ss[j]? = some s → ∃ v, vs[j]? = some v ∧ SRel K F H s (some v) ∧ (∀ d, s ≠ .own d) ∧ ∀ d p, s = .rd d → v = .ref p → ¬ no p
  | _, _, _, _, .nil, h, j, s, e => by cases h; simp at e
  | _, _, _, _, .val (ms := ms) (ds := ds) rp r, h, j, s, e => by
    unfold ini at h
    cases q : ini ms ds with
    | none => rw [q] at h; cases h
    | some ss =>
      rw [q] at h; cases h
      cases j with
      | zero => simp at e; subst e; exact ⟨_, rfl, .val rp, fun d z => (by cases z), fun d p z => (by cases z)⟩
      | succ j =>
        obtain ⟨v, k1, k2⟩ := ini_at r q j s (by simpa using e)
        exact ⟨v, by simpa using k1, k2⟩
  | _, _, _, _, .rd (ms := ms) (ds := ds) rp hn r, h, j, s, e => by
    unfold ini at h
    cases q : ini ms ds with
    | none => rw [q] at h; cases h
    | some ss =>
      rw [q] at h; cases h
      cases j with
      | zero => simp at e; subst e; exact ⟨_, rfl, .rd rp, fun d z => (by cases z), fun d p _ e2 => hn p e2⟩
      | succ j =>
        obtain ⟨v, k1, k2⟩ := ini_at r q j s (by simpa using e)
        exact ⟨v, by simpa using k1, k2⟩
section
variable {K : PySem.W.Frag} {F H : Hp}
theorem start_vals {n : Nat} {no : Addr → Prop} {md : List Bool} (ex : Same F H) {vs : List V} {ds : List D} {ss : List Slot} (ra : RaL K F H no md vs ds) (hi : ini md ds = some ss) (hn : vs.length ≤ n) : Rel K F H (ss ++ List.replicate (n - ss.length) .emp) (vs.map some ++ List.replicate (n - vs.length) none) ∧ (∀ p, ¬ Own (ss ++ List.replicate (n - ss.length) .emp) (vs.map some ++ List.replicate (n - vs.length) none) p) ∧
    (∀ (j : Nat) (d : D), (ss ++ List.replicate (n - ss.length) Slot.emp)[j]? = some (Slot.own d) → False) ∧ ∀ (j : Nat) (d : D) (p : Addr), (ss ++ List.replicate (n - ss.length) Slot.emp)[j]? = some (Slot.rd d) → (vs.map some ++ List.replicate (n - vs.length) none)[j]? = some (some (V.ref p)) → ¬ no p := by
  have hl : vs.length = ss.length := ra.len.1.trans (ini_len hi).symm
  have at1 : ∀ (j : Nat) (s : Slot), (ss ++ List.replicate (n - ss.length) Slot.emp)[j]? = some s → s = .emp ∨ ∃ v, (vs.map some ++ List.replicate (n - vs.length) none)[j]? = some (some v) ∧ SRel K F H s (some v) ∧ (∀ d, s ≠ .own d) ∧ ∀ d p, s = .rd d → v = .ref p → ¬ no p := fun j s h1 => by
    by_cases hj : j < ss.length
    · rw [List.getElem?_append_left hj] at h1
      obtain ⟨v, k1, k2⟩ := ini_at ra hi j s h1
      refine .inr ⟨v, ?_, k2⟩
      rw [List.getElem?_append_left (by rw [List.length_map, hl]; exact hj), List.getElem?_map, k1]
      rfl
    · rw [List.getElem?_append_right (by omega)] at h1
      exact .inl (List.eq_of_mem_replicate (List.mem_of_getElem? h1))
  have no1 : ∀ (j : Nat) (d : D), (ss ++ List.replicate (n - ss.length) Slot.emp)[j]? = some (.own d) → False := fun j d h => by
    rcases at1 j _ h with z | ⟨v, _, _, z, _⟩
    · cases z
    · exact z d rfl
  refine ⟨⟨ex, by simp [hl], fun j s o h1 h2 => ?_, fun j _ d _ _ h => (no1 j d h).elim, fun j d p _ _ ⟨k, e, z, _⟩ => no1 k e z⟩, fun p ⟨j, d, h, _⟩ => no1 j d h, no1, fun j d p h1 h2 => ?_⟩
  · rcases at1 j _ h1 with z | ⟨v, k1, k2, _⟩
    · subst z; exact .emp
    · rw [h2] at k1; cases k1; exact k2
  · rcases at1 j _ h1 with z | ⟨v, k1, _, _, k2⟩
    · cases z
    · rw [h2] at k1; cases k1; exact k2 d p rfl rfl
end
section
variable {P : Program} {w : World} {K : PySem.W.Frag} {mg : Str → Option Value} {base : Heap} {cv : String → Value}
abbrev EX (cv : String → Value) (E : XK) : EW := fun c _ H => E (cv c) none H
/-- a def's promise by its body -/
theorem fn_pure {fr : Bool} {x qual : Str} {st : Stmt} {f : Addr} {fd : FuncData} {N ps : List Str} {k : Nat} {body : XS} (md : List Bool) (FN : Fun K x qual st f fd) (S : FnScope N ps (defScope st)) (g : DF) (hg : g = runP md N.length fr body) (hp : ps.length ≤ N.length) (hm : md.length = ps.length)
    (hbody : ∀ (cdv : Value) (A : Around) (outer : List Env) (s : Shared) (H : Hp) (E : XK), Room k (A.deeper (envOfC qual (defScope st) s.heap.objs.size f cdv)) →
      PSs (cxOf (L2.CX P w) P w K mg base N qual (defScope st) f cdv A outer s H E) (defBody st) (lS K (EX cv E) fr body)) : FnOk P w K mg base (L2.CX P w) (k + 1) f fd ps (spP K cv fr md g) := by
  subst hg
  have len : ∀ vs H Q E, spP K cv fr md (runP md N.length fr body) vs H Q E → vs.length = ps.length := fun vs H Q E h => by
    obtain ⟨F, ds, _, ra, h⟩ := h
    exact ra.len.1.trans hm
  refine FN.okX S len fun cdv A outer s H vs Q E hr h => ⟨_, hbody cdv A outer s H E hr, ?_⟩
  have hlen := len vs H Q E h
  obtain ⟨F, ds, ex, ra, h⟩ := h
  unfold runP at h
  cases hi : ini md ds with
  | none => rw [hi] at h; exact h.elim
  | some ss =>
  rw [hi] at h
  simp only at h
  obtain ⟨r, no, _⟩ := start_vals (n := N.length) ex ra hi (by rw [hlen]; exact hp)
  refine ⟨F, _, r, ?_⟩
  have gr : ∀ {ρ' σ' F' H'}, Go K (ss ++ List.replicate (N.length - ss.length) .emp) (vs.map some ++ List.replicate (N.length - vs.length) none) F H ρ' σ' F' H' → Gr F H F' H' := fun {ρ' σ' F' H'} g => by
    refine ⟨g.ex, fun a o e => ?_, g.rel.ex, fun a o n e1 e2 => (g.keep a o e1 e2 (no a)).2 n⟩
    exact g.sameH r e (no a)
  unfold PendS
  split <;> rename_i e <;> simp only [e] at h
  · intro σ' F' H' g
    cases fr with
    | true => simp only [if_true] at h
    | false =>
      simp only [Bool.false_eq_true, if_false] at h
      exact h.1 rfl .non F' H' (gr g) .non
  · refine ⟨fun ef v σ' F' H' g rv => h.1 ef v F' H' (gr g) rv, fun ef p o σ' F' H' g h1 h2 h3 h4 h5 => ?_⟩
    refine h.2 ef p o F' H' (gr g) ?_ h1 h2 h3
    rcases h5 with z | z
    · exact (no p z).elim
    · exact z
  · exact fun σ' F' H' g => h F' H' (gr g)
end
end G


namespace G
open PySem PySem.Spec PyProof.Rows L2

section
variable {P : Program} {w : World} {K : PySem.W.Frag} {mg : Str → Option Value} {base : Heap} {cv : String → Value}
theorem start_bor {F H : Hp} {n : Nat} {md : List Bool} {b : Addr} {o : HO} {d0 : D} {vs : List V} {ds : List D} {ss : List Slot} (ex : Same F H) (hf : F b = none) (hh : H b = some o) (ro : Ro K F b o d0) (ra : RaL K F H (· = b) md vs ds) (hi : ini md ds = some ss) (hn : vs.length + 1 ≤ n) :
    Rel K F H (.own d0 :: ss ++ List.replicate (n - (ss.length + 1)) .emp) (L2.start (List.replicate n "") (.ref b :: vs)) ∧
      (∀ p, Own (.own d0 :: ss ++ List.replicate (n - (ss.length + 1)) .emp) (L2.start (List.replicate n "") (.ref b :: vs)) p → p = b) := by
  have hl : vs.length = ss.length := ra.len.1.trans (ini_len hi).symm
  have es : L2.start (List.replicate n "") (.ref b :: vs) = some (.ref b) :: (vs.map some ++ List.replicate (n - (vs.length + 1)) none) := by
    unfold L2.start
    simp
  rw [es]
  have er : (Slot.own d0 :: ss ++ List.replicate (n - (ss.length + 1)) .emp) = Slot.own d0 :: (ss ++ List.replicate (n - 1 - ss.length) .emp) := by
    rw [List.cons_append, show n - (ss.length + 1) = n - 1 - ss.length by omega]
  rw [er, show n - (vs.length + 1) = n - 1 - vs.length by omega]
  obtain ⟨r, _, no', nr⟩ := start_vals (n := n - 1) ex ra hi (by omega)
  have only : ∀ p, Own (Slot.own d0 :: (ss ++ List.replicate (n - 1 - ss.length) .emp)) (some (.ref b) :: (vs.map some ++ List.replicate (n - 1 - vs.length) none)) p → p = b := fun p h => by
    obtain ⟨j, d, h1, h2⟩ := h
    cases j with
    | zero => simp at h2; exact h2.symm
    | succ j => exact (no' j d (by simpa using h1)).elim
  refine ⟨⟨ex, by rw [List.length_cons, List.length_cons, r.len], fun j s v h1 h2 => ?_, fun j k d1 d2 p h1 h2 h3 h4 => ?_, fun j d p h1 h2 h3 => ?_⟩, only⟩
  · cases j with
    | zero => simp at h1 h2; subst h1 h2; exact .own hf hh ro
    | succ j => exact r.at' j s v (by simpa using h1) (by simpa using h2)
  · cases j with
    | zero =>
      cases k with
      | zero => rfl
      | succ k => exact (no' k d2 (by simpa using h2)).elim
    | succ j => exact (no' j d1 (by simpa using h1)).elim
  · cases j with
    | zero => simp at h1
    | succ j => exact nr j d p (by simpa using h1) (by simpa using h2) (only p h3)
theorem start_len {N : List Str} {vs : List V} : L2.start N vs = L2.start (List.replicate N.length "") vs := by
  unfold L2.start
  rw [List.length_replicate]
theorem slot0_of {F H : Hp} {ρ : Rho} {σ : L2.St} {p' : D} (r : Rel K F H ρ σ) (e : slot0 ρ = [p']) : ρ[0]? = some (.own p') := by
  unfold slot0 at e
  split at e
  · cases e; rfl
  · cases e
/-- .. that changes its first argument; the slots of the parameters are never stored to: h0 -/
theorem fn_bor {fr : Bool} {x qual : Str} {st : Stmt} {f : Addr} {fd : FuncData} {N ps : List Str} {k : Nat} {body : XS} (md : List Bool) (FN : Fun K x qual st f fd) (S : FnScope N ps (defScope st)) (g : DF) (hg : g = runB md N.length fr body) (hp : ps.length ≤ N.length) (hm : md.length + 1 = ps.length)
    (hbody : ∀ (cdv : Value) (A : Around) (outer : List Env) (s : Shared) (H : Hp) (E : XK), Room k (A.deeper (envOfC qual (defScope st) s.heap.objs.size f cdv)) →
      PSs (cxOf (L2.CX P w) P w K mg base N qual (defScope st) f cdv A outer s H E) (defBody st) (lS K (EX cv E) fr body)) : FnOk P w K mg base (L2.CX P w) (k + 1) f fd ps (spB K cv fr md g) := by
  subst hg
  have len : ∀ vs H Q E, spB K cv fr md (runB md N.length fr body) vs H Q E → vs.length = ps.length := fun vs H Q E h => by
    obtain ⟨F, b, o, d0, vs', ds, rfl, _, _, _, _, ra, h⟩ := h
    rw [List.length_cons, ra.len.1, hm]
  refine FN.okX S len fun cdv A outer s H vs Q E hr h => ⟨_, hbody cdv A outer s H E hr, ?_⟩
  have hlen := len vs H Q E h
  obtain ⟨F, b, o, d0, vs', ds, rfl, ex, hf, hh, ro, ra, h⟩ := h
  rw [start_len]
  unfold runB at h
  cases hi : ini md ds with
  | none => simp only [hi] at h
  | some ss =>
  simp only [hi] at h
  obtain ⟨r, only⟩ := start_bor (n := N.length) ex hf hh ro ra hi (by rw [List.length_cons] at hlen; omega)
  refine ⟨F, _, r, ?_⟩
  have s0 : (L2.start (List.replicate N.length "") (.ref b :: vs'))[0]? = some (some (.ref b)) := by unfold L2.start; rfl
  -- what stands at the end
  have ends : ∀ {ρ' : Rho} {σ' : L2.St} {F' H' : Hp} {p' : D}, Go K (.own d0 :: ss ++ List.replicate (N.length - (ss.length + 1)) .emp) (L2.start (List.replicate N.length "") (.ref b :: vs')) F H ρ' σ' F' H' → slot0 ρ' = [p'] →
      GrB b F H F' H' ∧ F' b = none ∧ ∃ o', H' b = some o' ∧ Ro K F' b o' p' := fun {ρ' σ' F' H' p'} g e => by
    obtain ⟨b2, o2, k1, k2, k3, k4⟩ := g.rel.own (slot0_of g.rel e)
    rw [g.low, s0] at k1
    cases k1
    refine ⟨⟨g.ex, g.rel.ex, fun a o ha e1 => ?_⟩, k2, o2, k3, k4⟩
    have hn : ¬ Own (.own d0 :: ss ++ List.replicate (N.length - (ss.length + 1)) .emp) (L2.start (List.replicate N.length "") (.ref b :: vs')) a := fun z => ha (only a z)
    exact ⟨g.sameH r e1 hn, fun n e2 => (g.keep a o e1 e2 hn).2 n⟩
  have hs : ∀ {ρ' : Rho} {σ' : L2.St} {F' H' : Hp}, Go K (.own d0 :: ss ++ List.replicate (N.length - (ss.length + 1)) .emp) (L2.start (List.replicate N.length "") (.ref b :: vs')) F H ρ' σ' F' H' → ∃ p', slot0 ρ' = [p'] := fun {ρ' σ' F' H'} g => by
    obtain ⟨d', hd'⟩ := g.lowO d0 rfl
    refine ⟨d', ?_⟩
    cases ρ' with
    | nil => cases hd'
    | cons x y => cases hd'; rfl
  unfold PendS
  split <;> rename_i e <;> simp only [e] at h
  · intro σ' F' H' g
    cases fr with
    | true => simp only [if_true] at h
    | false =>
      simp only [Bool.false_eq_true, if_false] at h
      obtain ⟨p', hp'⟩ := hs g
      rw [hp'] at h
      obtain ⟨g1, g2, o', g3, g4⟩ := ends g hp'
      exact (h F' H' o' g1 g2 g3 g4).1 trivial .non .non
  · rename_i d ρ'
    refine ⟨fun ef v σ' F' H' g rv => ?_, fun ef p o2 σ' F' H' g h1 h2 h3 h4 h5 => ?_⟩
    · obtain ⟨p', hp'⟩ := hs g
      rw [hp'] at h
      obtain ⟨g1, g2, o', g3, g4⟩ := ends g hp'
      exact (h F' H' o' g1 g2 g3 g4).1 ef v rv
    · obtain ⟨p', hp'⟩ := hs g
      rw [hp'] at h
      obtain ⟨g1, g2, o', g3, g4⟩ := ends g hp'
      refine (h F' H' o' g1 g2 g3 g4).2 ef p o2 ?_ h1 h2 h3
      rcases h5 with z | z
      · exfalso
        have := only p z
        subst this
        refine h4 ⟨0, p', slot0_of g.rel hp', ?_⟩
        rw [g.low, s0]
      · exact z
  · intro σ' F' H' g
    obtain ⟨p', hp'⟩ := hs g
    rw [hp'] at h
    obtain ⟨g1, g2, o', g3, g4⟩ := ends g hp'
    exact h F' H' o' g1 g2 g3 g4
end

inductive AL (K : PySem.W.Frag) (F : Hp) (ρ : Rho) (σ : L2.St) (ban : Nat) : List Bool → List V → List D → Prop
  | nil : AL K F ρ σ ban [] [] []
  | val {v : V} {d : D} {ms : List Bool} {vs : List V} {ds : List D} : Rp K F v d → AL K F ρ σ ban ms vs ds → AL K F ρ σ ban (false :: ms) (v :: vs) (d :: ds)
  | valR {v : V} {d : D} {ms : List Bool} {vs : List V} {ds : List D} : Rp K F v d → nofx d = true → AL K F ρ σ ban ms vs ds → AL K F ρ σ ban (true :: ms) (v :: vs) (d :: ds)
  | own {v : V} {d : D} {ms : List Bool} {vs : List V} {ds : List D} (j : Nat) : j ≠ ban → σ[j]? = some (some v) → rdD j ρ = some d → AL K F ρ σ ban ms vs ds → AL K F ρ σ ban (true :: ms) (v :: vs) (d :: ds)
section
variable {K : PySem.W.Frag} {F H : Hp} {ρ : Rho} {σ : L2.St} {ban : Nat}
theorem rdD_of {j : Nat} {d : D} (h : rdD j ρ = some d) : ρ[j]? = some (.own d) ∨ ρ[j]? = some (.rd d) := by
  unfold rdD at h
  split at h
  · cases h; exact .inl ‹_›
  · cases h; exact .inr ‹_›
  · cases h
theorem AL.ral' {no : Addr → Prop} (r : Rel K F H ρ σ) (hf : ∀ p, no p → F p = none) (ho : ∀ (j : Nat) (d : D) (p : Addr), j ≠ ban → rdD j ρ = some d → σ[j]? = some (some (.ref p)) → ¬ no p) : ∀ {md : List Bool} {vs : List V} {ds : List D}, AL K F ρ σ ban md vs ds → RaL K F H no md vs ds
  | _, _, _, .nil => .nil
  | _, _, _, .val a b => .val a (b.ral' r hf ho)
  | _, _, _, .valR a n b => .rd (.val a n) (fun p e z => by subst e; exact rp_at a n (hf p z)) (b.ral' r hf ho)
  | _, _, _, .own j hj a h b => by
    obtain ⟨v', h1, h2⟩ := r.rd h
    rw [a] at h1
    cases h1
    exact .rd h2 (fun p e => by subst e; exact ho j _ p hj h a) (b.ral' r hf ho)
theorem AL.ral (r : Rel K F H ρ σ) {md : List Bool} {vs : List V} {ds : List D} (h : AL K F ρ σ ban md vs ds) : RaL K F H (fun _ => False) md vs ds := h.ral' r (fun _ z => z.elim) fun _ _ _ _ _ _ z => z
theorem AL.ralB {b : Addr} {d0 : D} (r : Rel K F H ρ σ) (hi : ρ[ban]? = some (.own d0)) (hs : σ[ban]? = some (some (.ref b))) (hf : F b = none) {md : List Bool} {vs : List V} {ds : List D} (h : AL K F ρ σ ban md vs ds) : RaL K F H (· = b) md vs ds :=
  h.ral' r (fun p z => by rw [z]; exact hf) fun j d p hj hd hp z => by
    subst z
    rcases rdD_of hd with k | k
    · exact hj (r.dis j ban d d0 p k hi hp hs)
    · exact r.rdis j d p k hp ⟨ban, d0, hi, hs⟩
def lM (K : PySem.W.Frag) (E : EW) (ban : Nat) (md : List Bool) (t : XA) : TA := fun σ H Q => ∃ F ρ, Rel K F H ρ σ ∧ Pend K E t ρ σ F H fun ds ρ' F' H' => ∀ vs, AL K F' ρ' σ ban md vs ds → Q vs H'
end
section
variable {X : Cx} {E : EW} {ta : XV} {ban : Nat}
theorem xm_nil : PA X [] (lM X.K E ban [] xNil) := pa_imp pa_nil fun σ H Q h => by
  obtain ⟨F, ρ, r, p⟩ := h
  exact p F H (Go.refl r) [] .nil
theorem xm_val {e : Expr} {es : List Expr} {tr : XA} {md : List Bool} (ha : PE X e (lE X.K E ta)) (hr : PA X es (lM X.K E ban md tr)) (hs : starEach (e :: es) X.env = (false, eval e X.env) :: starEach es X.env := by rfl) : PA X (e :: es) (lM X.K E ban (false :: md) (xCons ta tr)) := by
  refine pa_imp (pa_cons ha hr hs) fun σ H Q h => ?_
  obtain ⟨F, ρ, r, p⟩ := h
  refine ⟨F, ρ, r, (Pend.bind r p).mono fun x ρ1 F1 H1 g1 q v rv => ⟨F1, ρ1, g1.rel, (Pend.bind g1.rel q).mono fun xs ρ2 F2 H2 g2 q vs rs => ?_⟩⟩
  exact q F2 H2 (Go.refl g2.rel) (v :: vs) (.val (rv.mono g2.ex) rs)
def xConsR (ta : XV) (tr : XA) : XA := fun ρ => (ta ρ).bind fun x ρ1 => (tr ρ1).bind fun xs ρ2 => if nofx x = true then .ok (x :: xs) ρ2 else .bad
theorem xm_valR {e : Expr} {es : List Expr} {tr : XA} {md : List Bool} (ha : PE X e (lE X.K E ta)) (hr : PA X es (lM X.K E ban md tr)) (hs : starEach (e :: es) X.env = (false, eval e X.env) :: starEach es X.env := by rfl) : PA X (e :: es) (lM X.K E ban (true :: md) (xConsR ta tr)) := by
  refine pa_imp (pa_cons ha hr hs) fun σ H Q h => ?_
  obtain ⟨F, ρ, r, p⟩ := h
  refine ⟨F, ρ, r, (Pend.bind r p).mono fun x ρ1 F1 H1 g1 q v rv => ⟨F1, ρ1, g1.rel, (Pend.bind g1.rel q).mono fun xs ρ2 F2 H2 g2 q vs rs => ?_⟩⟩
  by_cases hn : nofx x = true
  · unfold Pend at q
    simp only [hn, if_true] at q
    exact q F2 H2 (Go.refl g2.rel) (v :: vs) (.valR (rv.mono g2.ex) hn rs)
  · unfold Pend at q
    dsimp only at q
    rw [if_neg hn] at q
    exact q.elim
def xConsO (j : Nat) (tr : XA) : XA := fun ρ => match rdD j ρ with
  | none => .bad
  | some _ => (tr ρ).bind fun ds ρ1 => match rdD j ρ1 with
    | some d => .ok (d :: ds) ρ1
    | none => .bad
end

abbrev EWx (cv : String → Value) (W : WX) : EW := fun c σ H => W (cv c) none σ H
def FR.res (r : FR) (ρ : Rho) : Res D := match r with
  | .ok d _ => .ok d ρ
  | .exc c _ => .exc c ρ
  | .bad => .bad
def xCall (g : DF) (t : XA) : XV := fun ρ => (t ρ).bind fun ds ρ1 => (g ds).res ρ1
section
variable {X : Cx} {cv : String → Value} {pos : Pos} {W : WX}
theorem call_of {ban : Nat} {md : List Bool} {g : DF} {t : XA} {σ : L2.St} {H : Hp} {Q : VK} (h : lE X.K (EWx cv W) (xCall g t) σ H Q) : tCallS (spP X.K cv false md g) (WE W) (lM X.K (EWx cv W) ban md t) σ H Q := by
  obtain ⟨F, ρ, r, p⟩ := h
  refine ⟨F, ρ, r, (Pend.bind r p).mono fun ds ρ1 F1 H1 g1 q vs ra => ⟨F1, ds, g1.rel.ex, ra.ral g1.rel, ?_⟩⟩
  unfold Pend FR.res at q
  cases e : g ds with
  | ok d ps => simp only [e] at q; exact ⟨fun _ => outV_of g1.rel q, fun z => by cases z⟩
  | exc c ps => simp only [e] at q; exact fun F' H' gr => q F' H' (gr.go g1.rel)
  | bad => simp only [e] at q
theorem callN_of {ban : Nat} {md : List Bool} {g : DF} {t : XA} {σ : L2.St} {H : Hp} {Q : VK} (h : lN X.K (EWx cv W) (xCall g t) σ H Q) : tCallS (spP X.K cv true md g) (WE W) (lM X.K (EWx cv W) ban md t) σ H Q := by
  obtain ⟨F, ρ, r, p⟩ := h
  refine ⟨F, ρ, r, (Pend.bind r p).mono fun ds ρ1 F1 H1 g1 q vs ra => ⟨F1, ds, g1.rel.ex, ra.ral g1.rel, ?_⟩⟩
  unfold Pend FR.res at q
  cases e : g ds with
  | ok d ps => simp only [e] at q; exact ⟨fun z => (by cases z), fun _ => outN_of r g1 q⟩
  | exc c ps => simp only [e] at q; exact fun F' H' gr => q F' H' (gr.go g1.rel)
  | bad => simp only [e] at q
theorem xe_call {ban : Nat} {md : List Bool} {k : Nat} {f : Addr} {fd : FuncData} {ps : List Str} {g : DF} {x : Str} {p : Pos} {e : Expr} {es : List Expr} {t : XA} (tk : Takes X W) (FN : FnOk X.prog X.w X.K X.mg X.base (L2.CX X.prog X.w) k f fd ps (spP X.K cv false md g)) (hr : Room k X.A) (hg : Gl X x) (hm : X.mg x = some (.ref f)) (hk : PySem.W.keepIn X.K (.ref f) = true) (hb : Binds X.K fd ps [])
    (ha : PA X (e :: es) (lM X.K (EWx cv W) ban md t)) (hdb : (x == ("__debug__" : Str)) = false := by decide) (he : starEach (e :: es) X.env = (false, eval e X.env) :: starEach es X.env := by rfl) (hpl : (backTo pos (starEach es X.env)).any (·.1) = false := by rfl) :
    PE X (.Call (.Name x p) (e :: es) [] pos) (lE X.K (EWx cv W) (xCall g t)) := pe_imp (pe_callS FN hr hg hm hk hb (passAt tk) ha hdb he hpl) fun σ H Q h => call_of h
theorem xn_call {ban : Nat} {md : List Bool} {k : Nat} {f : Addr} {fd : FuncData} {ps : List Str} {g : DF} {x : Str} {p : Pos} {e : Expr} {es : List Expr} {t : XA} (tk : Takes X W) (FN : FnOk X.prog X.w X.K X.mg X.base (L2.CX X.prog X.w) k f fd ps (spP X.K cv true md g)) (hr : Room k X.A) (hg : Gl X x) (hm : X.mg x = some (.ref f)) (hk : PySem.W.keepIn X.K (.ref f) = true) (hb : Binds X.K fd ps [])
    (ha : PA X (e :: es) (lM X.K (EWx cv W) ban md t)) (hdb : (x == ("__debug__" : Str)) = false := by decide) (he : starEach (e :: es) X.env = (false, eval e X.env) :: starEach es X.env := by rfl) (hpl : (backTo pos (starEach es X.env)).any (·.1) = false := by rfl) :
    PE X (.Call (.Name x p) (e :: es) [] pos) (lN X.K (EWx cv W) (xCall g t)) := pe_imp (pe_callS FN hr hg hm hk hb (passAt tk) ha hdb he hpl) fun σ H Q h => callN_of h
/-- f() -/
theorem pe_call0S {CX : CXT} {k : Nat} {f : Addr} {fd : FuncData} {sp : Sp} {E : L2.St → XK} {x : Str} {p : Pos} (FN : FnOk X.prog X.w X.K X.mg X.base CX k f fd [] sp) (hr : Room k X.A) (hg : Gl X x) (hm : X.mg x = some (.ref f)) (hk : PySem.W.keepIn X.K (.ref f) = true) (hb : Binds X.K fd [] []) (hx : ∀ σ, PassesAt CX X σ (E σ))
    (hdb : (x == ("__debug__" : Str)) = false := by decide) : PE X (.Call (.Name x p) [] [] pos) (tCallS sp E tNil) := by
  refine ⟨fun pins s σ H Q I h => ?_⟩
  refine wpAny_Call_Name_kw (ld_glob I hg hm ?_ hdb)
  exact PySem.W.callWith_K0 I.kIn hk (run_fnS (us := []) FN hr hb (hx σ) I .nil h)
theorem nilA {ban : Nat} {E : EW} {sp : Sp} {E' : L2.St → XK} {σ : L2.St} {H : Hp} {Q : VK} (h : tCallS sp E' (lM X.K E ban [] xNil) σ H Q) : tCallS sp E' tNil σ H Q := by
  obtain ⟨F, ρ, r, p⟩ := h
  exact p F H (Go.refl r) [] .nil
theorem xn_call0 {k : Nat} {f : Addr} {fd : FuncData} {g : DF} {x : Str} {p : Pos} (tk : Takes X W) (FN : FnOk X.prog X.w X.K X.mg X.base (L2.CX X.prog X.w) k f fd [] (spP X.K cv true [] g)) (hr : Room k X.A) (hg : Gl X x) (hm : X.mg x = some (.ref f)) (hk : PySem.W.keepIn X.K (.ref f) = true) (hb : Binds X.K fd [] [])
    (hdb : (x == ("__debug__" : Str)) = false := by decide) : PE X (.Call (.Name x p) [] [] pos) (lN X.K (EWx cv W) (xCall g xNil)) := pe_imp (pe_call0S FN hr hg hm hk hb (passAt tk) hdb) fun σ H Q h => nilA (ban := 0) (callN_of h)
/-- f(x, ..), f changes the object of x -/
def ownD (i : Nat) (ρ : Rho) : Option D := match ρ[i]? with
  | some (.own d) => some d
  | _ => none
theorem ownD_of {i : Nat} {ρ : Rho} {d : D} (h : ownD i ρ = some d) : ρ[i]? = some (.own d) := by
  unfold ownD at h
  split at h
  · rename_i e
    cases h
    exact e
  · cases h
def FR.resB (r : FR) (i : Nat) (ρ : Rho) : Res D := match r with
  | .ok d [p] => .ok d (ρ.set i (.own p))
  | .exc c [p] => .exc c (ρ.set i (.own p))
  | _ => .bad
def xCallB (g : DF) (i : Nat) (t : XA) : XV := fun ρ => match ownD i ρ with
  | none => .bad
  | some _ => (t ρ).bind fun ds ρ1 => match ownD i ρ1 with
    | none => .bad
    | some d0 => (g (d0 :: ds)).resB i ρ1
/-- behind such a call -/
theorem go_bor {K : PySem.W.Frag} {F H F' H' : Hp} {ρ : Rho} {σ : L2.St} {i : Nat} {b : Addr} {o' : HO} {d0 p' : D} (r : Rel K F H ρ σ) (hi : ρ[i]? = some (.own d0)) (hs : σ[i]? = some (some (.ref b))) (g : GrB b F H F' H') (hf : F' b = none) (hh : H' b = some o') (ro : Ro K F' b o' p') :
    Go K ρ σ F H (ρ.set i (.own p')) σ F' H' where
  rel := by
    refine ⟨g.sub, by rw [List.length_set]; exact r.len, fun j s v g1 g2 => ?_, fun j k d1 d2 q g1 g2 g3 g4 => ?_, fun j d1 q g1 g2 g3 => ?_⟩
    rotate_right
    · rcases get_set g1 with ⟨_, z⟩ | ⟨hj, g1⟩
      · cases z
      · refine r.rdis j d1 q g1 g2 ?_
        obtain ⟨k, e, k1, k2⟩ := g3
        rcases get_set k1 with ⟨ek, _⟩ | ⟨_, k1⟩
        · subst ek; exact ⟨_, d0, hi, k2⟩
        · exact ⟨k, e, k1, k2⟩
    · rcases get_set g1 with ⟨e, rfl⟩ | ⟨hj, g1⟩
      · subst e
        rw [hs] at g2
        cases g2
        exact .own hf hh ro
      · have z := r.at' j s v g1 g2
        cases z with
        | emp => exact .emp
        | adr => exact .adr
        | val rp => exact .val (rp.mono g.ex)
        | @own p o d z1 z2 z3 =>
          have hne : p ≠ b := by
            rintro rfl
            exact hj (r.dis i j _ _ _ hi g1 hs g2)
          obtain ⟨k1, k2⟩ := g.keep p o hne z2
          exact .own (k2 z3.nt z1) k1 (z3.mono g.ex)
        | rd ra =>
          refine .rd (ra.step g.ex fun p u hn eq e1 e2 => ?_)
          subst eq
          have hne : p ≠ b := by
            rintro rfl
            exact r.rdis j _ _ g1 g2 ⟨i, d0, hi, hs⟩
          obtain ⟨k1, k2⟩ := g.keep p u hne e1
          exact ⟨k1, k2 hn e2⟩
    · have own_of : ∀ (m : Nat) (e : D), (ρ.set i (Slot.own p'))[m]? = some (Slot.own e) → ∃ e' : D, ρ[m]? = some (Slot.own e') := fun m e h => by
        rcases get_set h with ⟨e1, _⟩ | ⟨_, h⟩
        · subst e1; exact ⟨_, hi⟩
        · exact ⟨_, h⟩
      obtain ⟨e1, q1⟩ := own_of _ _ g1
      obtain ⟨e2, q2⟩ := own_of _ _ g2
      exact r.dis j k e1 e2 q q1 q2 g3 g4
  ex := g.ex
  keep := fun a u g1 g2 g3 => by
    obtain ⟨k1, k2⟩ := g.keep a u (by
      rintro rfl
      exact g3 ⟨i, d0, hi, hs⟩) g1
    exact ⟨k1, fun n => k2 n g2⟩
  own := fun q h => by
    obtain ⟨j, e, q1, q2⟩ := h
    rcases get_set q1 with ⟨e1, _⟩ | ⟨_, q1⟩
    · subst e1
      exact .inl ⟨_, d0, hi, q2⟩
    · exact .inl ⟨j, e, q1, q2⟩
  low := rfl
  lowO := fun d h => by
    by_cases h0 : i = 0
    · subst h0
      exact ⟨p', by rw [List.getElem?_set_self (by cases Nat.lt_or_ge 0 ρ.length with | inl z => exact z | inr z => rw [List.getElem?_eq_none z] at h; cases h)]⟩
    · exact ⟨d, by rw [List.getElem?_set_ne h0]; exact h⟩
  rdb := fun j e h => by
    rcases get_set h with ⟨_, q⟩ | ⟨_, h⟩
    · cases q
    · exact ⟨h, rfl⟩
theorem callB_of {md : List Bool} {fr : Bool} {g : DF} {i : Nat} {t : XA} {σ : L2.St} {H : Hp} {Q : VK}
    (h : ∃ F ρ, Rel X.K F H ρ σ ∧ Pend X.K (EWx cv W) (xCallB g i t) ρ σ F H fun d ρ' F' H' => (fr = false → ∀ v, Rp X.K F' v d → Q v H') ∧ (fr = true → ∀ p o, F' p = none → H' p = some o → Ro X.K F' p o d → ¬ Own ρ' σ p → (Own ρ σ p ∨ H p = none) → Q (.ref p) H')) :
    tCallS (spB X.K cv fr md g) (WE W) (tCons (tVar i) (lM X.K (EWx cv W) i md t)) σ H Q := by
  obtain ⟨F, ρ, r, p⟩ := h
  unfold xCallB at p
  cases e0 : ownD i ρ with
  | none => unfold Pend at p; simp only [e0] at p
  | some d00 =>
    obtain ⟨b, o, h1, h2, h3, h4⟩ := r.own (ownD_of e0)
    have p' : Pend X.K (EWx cv W) (fun ρ => (t ρ).bind fun ds ρ1 => match ownD i ρ1 with
      | none => .bad
      | some d0 => (g (d0 :: ds)).resB i ρ1) ρ σ F H fun d ρ' F' H' => (fr = false → ∀ v, Rp X.K F' v d → Q v H') ∧ (fr = true → ∀ p o, F' p = none → H' p = some o → Ro X.K F' p o d → ¬ Own ρ' σ p → (Own ρ σ p ∨ H p = none) → Q (.ref p) H') := by
      unfold Pend at p ⊢
      simp only [e0] at p
      exact p
    refine ⟨.ref b, h1, F, ρ, r, (Pend.bind r p').mono fun ds ρ1 F1 H1 g1 q vs ra => ?_⟩
    unfold Pend at q
    cases e1 : ownD i ρ1 with
    | none => simp only [e1] at q
    | some d0 =>
      simp only [e1] at q
      obtain ⟨b1, o1, k1, k2, k3, k4⟩ := g1.rel.own (ownD_of e1)
      rw [h1] at k1
      cases k1
      refine ⟨F1, b, o1, d0, vs, ds, rfl, g1.rel.ex, k2, k3, k4, ra.ralB g1.rel (ownD_of e1) h1 k2, ?_⟩
      unfold FR.resB at q
      split <;> rename_i e2 <;> simp only [e2] at q
      · intro F2 H2 o2 gr z1 z2 z3
        have g2 := go_bor g1.rel (ownD_of e1) h1 gr z1 z2 z3
        obtain ⟨m1, m2⟩ := q F2 H2 g2
        refine ⟨m1, fun ef p o3 hp y1 y2 y3 => m2 ef p o3 y1 y2 y3 (fun z => ?_) (own_back r g1 (.inr hp))⟩
        rcases g2.own p z with z | z
        · exact not_own_new g1.rel hp z
        · obtain ⟨j, dj, zz1, zz2⟩ := id ‹Own _ _ p›
          rcases get_set zz1 with ⟨ej, _⟩ | ⟨_, zz1⟩
          · subst ej
            rw [h1] at zz2
            cases zz2
            rw [hp] at k3; cases k3
          · exact not_own_new g1.rel hp ⟨j, dj, zz1, zz2⟩
      · exact fun F2 H2 o2 gr z1 z2 z3 => q F2 H2 (go_bor g1.rel (ownD_of e1) h1 gr z1 z2 z3)
theorem lE_B {md : List Bool} {g : DF} {i : Nat} {t : XA} {σ : L2.St} {H : Hp} {Q : VK} (h : lE X.K (EWx cv W) (xCallB g i t) σ H Q) : tCallS (spB X.K cv false md g) (WE W) (tCons (tVar i) (lM X.K (EWx cv W) i md t)) σ H Q := by
  obtain ⟨F, ρ, r, p⟩ := h
  exact callB_of ⟨F, ρ, r, p.mono fun d ρ' F' H' g q => ⟨fun _ => q, fun z => by cases z⟩⟩
theorem lN_B {md : List Bool} {g : DF} {i : Nat} {t : XA} {σ : L2.St} {H : Hp} {Q : VK} (h : lN X.K (EWx cv W) (xCallB g i t) σ H Q) : tCallS (spB X.K cv true md g) (WE W) (tCons (tVar i) (lM X.K (EWx cv W) i md t)) σ H Q := by
  obtain ⟨F, ρ, r, p⟩ := h
  exact callB_of ⟨F, ρ, r, p.mono fun d ρ' F' H' g q => ⟨fun z => (by cases z), fun _ => q⟩⟩
theorem xe_callBor {md : List Bool} {k : Nat} {f : Addr} {fd : FuncData} {ps : List Str} {g : DF} {x y : Str} {p yp : Pos} {es : List Expr} {i : Nat} {t : XA} (tk : Takes X W) (FN : FnOk X.prog X.w X.K X.mg X.base (L2.CX X.prog X.w) k f fd ps (spB X.K cv false md g)) (hr : Room k X.A) (hg : Gl X x) (hm : X.mg x = some (.ref f)) (hk : PySem.W.keepIn X.K (.ref f) = true) (hb : Binds X.K fd ps [])
    (hy : PE X (.Name y yp) (tVar i)) (ha : PA X es (lM X.K (EWx cv W) i md t)) (hdb : (x == ("__debug__" : Str)) = false := by decide) (he : starEach (.Name y yp :: es) X.env = (false, eval (.Name y yp) X.env) :: starEach es X.env := by rfl) (hpl : (backTo pos (starEach es X.env)).any (·.1) = false := by rfl) :
    PE X (.Call (.Name x p) (.Name y yp :: es) [] pos) (lE X.K (EWx cv W) (xCallB g i t)) := pe_imp (pe_callS FN hr hg hm hk hb (passAt tk) (pa_cons hy ha he) hdb he hpl) fun σ H Q h => lE_B h
theorem xn_callBor {md : List Bool} {k : Nat} {f : Addr} {fd : FuncData} {ps : List Str} {g : DF} {x y : Str} {p yp : Pos} {es : List Expr} {i : Nat} {t : XA} (tk : Takes X W) (FN : FnOk X.prog X.w X.K X.mg X.base (L2.CX X.prog X.w) k f fd ps (spB X.K cv true md g)) (hr : Room k X.A) (hg : Gl X x) (hm : X.mg x = some (.ref f)) (hk : PySem.W.keepIn X.K (.ref f) = true) (hb : Binds X.K fd ps [])
    (hy : PE X (.Name y yp) (tVar i)) (ha : PA X es (lM X.K (EWx cv W) i md t)) (hdb : (x == ("__debug__" : Str)) = false := by decide) (he : starEach (.Name y yp :: es) X.env = (false, eval (.Name y yp) X.env) :: starEach es X.env := by rfl) (hpl : (backTo pos (starEach es X.env)).any (·.1) = false := by rfl) :
    PE X (.Call (.Name x p) (.Name y yp :: es) [] pos) (lN X.K (EWx cv W) (xCallB g i t)) := pe_imp (pe_callS FN hr hg hm hk hb (passAt tk) (pa_cons hy ha he) hdb he hpl) fun σ H Q h => lN_B h
end
end G


namespace G
open PySem PySem.Spec PyProof.Rows L2

def d2I (C : Int → Int → Prop) [∀ i j, Decidable (C i j)] (g : Int → Int → D) : D → D → Option D
  | .int i, .int j => if C i j then some (g i j) else none
  | _, _ => none
def d2I0 (g : Int → Int → D) : D → D → Option D
  | .int i, .int j => some (g i j)
  | _, _ => none
theorem d2I_of {C : Int → Int → Prop} [∀ i j, Decidable (C i j)] {g : Int → Int → D} {x y d : D} (h : d2I C g x y = some d) : ∃ i j, x = .int i ∧ y = .int j ∧ C i j ∧ d = g i j := by
  unfold d2I at h
  split at h
  · split at h
    · cases h; exact ⟨_, _, rfl, rfl, by assumption, rfl⟩
    · cases h
  · cases h
theorem d2I0_of {g : Int → Int → D} {x y d : D} (h : d2I0 g x y = some d) : ∃ i j, x = .int i ∧ y = .int j ∧ d = g i j := by
  unfold d2I0 at h
  split at h
  · cases h; exact ⟨_, _, rfl, rfl, rfl⟩
  · cases h
theorem imp_I {K : PySem.W.Frag} {C : Int → Int → Prop} [∀ i j, Decidable (C i j)] {g : Int → Int → D} {gv : Int → Int → V} (hg : ∀ F i j, Rp K F (gv i j) (g i j)) : Imp2 K (d2I C g) (rI C gv) := fun F H v w x y d Q ex rv rw e o => by
  obtain ⟨i, j, rfl, rfl, hc, rfl⟩ := d2I_of e
  cases rv; cases rw
  exact ⟨i, j, rfl, rfl, hc, o.here ex (hg F i j)⟩
theorem imp_I0 {K : PySem.W.Frag} {g : Int → Int → D} {gv : Int → Int → V} (hg : ∀ F i j, Rp K F (gv i j) (g i j)) : Imp2 K (d2I0 g) (rI0 gv) := fun F H v w x y d Q ex rv rw e o => by
  obtain ⟨i, j, rfl, rfl, rfl⟩ := d2I0_of e
  cases rv; cases rw
  exact ⟨i, j, rfl, rfl, o.here ex (hg F i j)⟩
def dAddS : D → D → Option D
  | .str a, .str b => if a.length + b.length ≤ sizeLine then some (.str (a ++ b)) else none
  | _, _ => none
def dAddT : D → D → Option D
  | .tup a, .tup b => if a ≠ [] ∧ a.length + b.length ≤ sizeLine then some (.tup (a ++ b)) else none
  | _, _ => none
def dAddL : D → D → Option D
  | .lst a, .lst b => if a.length + b.length ≤ sizeLine then some (.lst (a ++ b)) else none
  | _, _ => none
instance (a : List D) : Decidable (a = []) := match a with
  | [] => isTrue rfl
  | _ :: _ => isFalse (fun h => nomatch h)
def dAdd : D → D → Option D
  | .int i, .int j => some (.int (i + j))
  | .str a, .str b => dAddS (.str a) (.str b)
  | .tup a, .tup b => dAddT (.tup a) (.tup b)
  | .lst a, .lst b => dAddL (.lst a) (.lst b)
  | _, _ => none
def rAddAll (K : PySem.W.Frag) : R2 := fun x y H Q => (rI0 fun i j => .int (i + j)) x y H Q ∨ (fun x y H Q => ∃ i j, x = .str i ∧ y = .str j ∧ i.length + j.length ≤ sizeLine ∧ Q (.str (i ++ j)) H) x y H Q ∨ rCatT K x y H Q ∨ rCat x y H Q
theorem op_addAll {X : Cx} : OpR X (binaryOp .Add) (rAddAll X.K) := op_add.or (op_add_str.or (op_catT.or op_cat))
theorem imp_add {K : PySem.W.Frag} : Imp2 K dAdd (rAddAll K) := fun F H v w x y d Q ex rv rw e o => by
  unfold dAdd at e
  split at e
  · cases e; cases rv; cases rw
    exact .inl ⟨_, _, rfl, rfl, o.here ex (.int _)⟩
  · unfold dAddS at e
    simp only at e
    split at e
    · cases e; cases rv; cases rw
      exact .inr (.inl ⟨_, _, rfl, rfl, by assumption, o.here ex (.str _)⟩)
    · cases e
  · unfold dAddT at e
    simp only at e
    split at e
    · rename_i a b hc
      cases e
      cases rv with
      | tup hf ra =>
        rename_i p xs
        cases rw with
        | tup hf' rb =>
          rename_i q ys
          refine .inr (.inr (.inl ⟨p, q, xs, ys, rfl, rfl, SqT.of (ex _ _ hf), SqT.of (ex _ _ hf'), ?_, by rw [ra.length, rb.length]; exact hc.2, fun hn => ?_, fun hn r hr => ?_⟩))
          · rintro rfl
            cases ra
            exact hc.1 rfl
          · subst hn
            cases rb
            rw [List.append_nil] at o
            exact o.here ex (.tup hf ra)
          · have g := Gr.new (o := .tup (xs ++ ys)) ex hr
            exact o.new ex hr (.tup upd_same ((ra.append rb).mono g.ex))
    · cases e
  · unfold dAddL at e
    simp only at e
    split at e
    · rename_i a b hc
      cases e
      cases rv with
      | lst hf ra =>
        rename_i p xs
        cases rw with
        | lst hf' rb =>
          rename_i q ys
          refine .inr (.inr (.inr ⟨p, q, xs, ys, rfl, rfl, ex _ _ hf, ex _ _ hf', by rw [ra.length, rb.length]; exact hc, fun r hr => ?_⟩))
          have g := Gr.new (o := .lst (xs ++ ys)) ex hr
          exact o.new ex hr (.lst upd_same ((ra.append rb).mono g.ex))
    · cases e
  · cases e
def dSub := d2I0 fun i j => .int (i - j)
instance (i j : Int) : Decidable (CMulW i j) := by unfold CMulW; infer_instance
instance (i j : Int) : Decidable (CDivW i j) := by unfold CDivW; infer_instance
instance (i j : Int) : Decidable (CPow i j) := by unfold CPow; infer_instance
instance (i j : Int) : Decidable (CMul i j) := by unfold CMul; infer_instance
def CMulA (i j : Int) : Prop := CMul i j ∨ CMulW i j
instance (i j : Int) : Decidable (CMulA i j) := by unfold CMulA; infer_instance
theorem op_mulA {X : Cx} : OpR X (binaryOp .Mult) (rI CMulA fun i j => .int (i * j)) := opI fun _ _ _ _ _ _ _ hc q => mul_int q (hc.elim CMul.ok CMulW.ok)
def dMul := d2I CMulA fun i j => .int (i * j)
def dDiv := d2I CDivW fun i j => .int (i / j)
def dMod := d2I (fun _ j => 0 < j) fun i j => .int (i % j)
def dPow := d2I CPow fun i j => .int (i ^ j.toNat)
def dShl := d2I CPow fun i j => .int (i * 2 ^ j.toNat)
def dNeg : D → Option D
  | .int i => some (.int (-i))
  | _ => none
theorem imp_neg {K : PySem.W.Frag} : Imp1 K dNeg (rU fun i => .int (-i)) := fun F H v x d Q ex rv e o => by
  unfold dNeg at e
  split at e
  · cases e; cases rv
    exact ⟨_, rfl, o.here ex (.int _)⟩
  · cases e
def dCmp (p : Int → Int → Bool) := d2I0 fun i j => .bl (p i j)
def tupInts : List D → Option (List Int)
  | [] => some []
  | .int i :: r => (tupInts r).map (i :: ·)
  | _ => none
theorem tupInts_of : ∀ {ds : List D} {ns : List Int}, tupInts ds = some ns → ds = ns.map D.int
  | [], ns, h => by cases h; rfl
  | .int i :: r, ns, h => by
    unfold tupInts at h
    cases q : tupInts r with
    | none => rw [q] at h; cases h
    | some ms => rw [q] at h; cases h; rw [tupInts_of q]; rfl
  | .non :: _, _, h => by cases h
  | .bl _ :: _, _, h => by cases h
  | .str _ :: _, _, h => by cases h
  | .ty _ :: _, _, h => by cases h
  | .tup _ :: _, _, h => by cases h
  | .lst _ :: _, _, h => by cases h
  | .fix _ :: _, _, h => by cases h
  | .dicK _ _ :: _, _, h => by cases h
  | .dicT _ _ :: _, _, h => by cases h
theorem tupInts_int (ns : List Int) : tupInts (ns.map D.int) = some ns := by
  induction ns with
  | nil => rfl
  | cons n ns ih => show (tupInts (ns.map D.int)).map (n :: ·) = _; rw [ih]; rfl
def dLt : D → D → Option D
  | .int i, .int j => some (.bl (decide (i < j)))
  | .tup a, .tup b => match tupInts a, tupInts b with
    | some ns, some ms => some (.bl (HT.lexLt ns ms))
    | _, _ => none
  | _, _ => none
theorem imp_lt {K : PySem.W.Frag} : Imp2 K dLt (fun v w H Q => (rI0 fun i j => .bl (decide (i < j))) v w H Q ∨ rLtT K v w H Q) := fun F H v w x y d Q ex rv rw e o => by
  unfold dLt at e
  split at e
  · cases e; cases rv; cases rw
    exact .inl ⟨_, _, rfl, rfl, o.here ex (.bl _)⟩
  · split at e
    · rename_i ns ms q1 q2
      cases e
      cases rv with
      | tup hf ra =>
        rename_i p xs
        cases rw with
        | tup hf' rb =>
          rename_i q ys
          rw [tupInts_of q1] at ra
          rw [tupInts_of q2] at rb
          rw [ra.ints] at hf
          rw [rb.ints] at hf'
          exact .inr ⟨p, q, ns, ms, rfl, rfl, SqT.of (ex _ _ hf), SqT.of (ex _ _ hf'), o.here ex (.bl _)⟩
    · cases e
  · cases e
theorem op_ltAll {X : Cx} (hu : X.A.units < cLine) : OpR X (compareOp .Lt) (fun v w H Q => (rI0 fun i j => .bl (decide (i < j))) v w H Q ∨ rLtT X.K v w H Q) := op_lt.or (op_ltT hu)
mutual
def toPy : D → Option PyData
  | .non => some .none
  | .bl b => some (.bool b)
  | .int i => some (.int i)
  | .str x => some (.str x)
  | .tup ds => (toPys ds).map .tuple
  | .lst ds => (toPys ds).map .list
  | _ => none
def toPys : List D → Option (List PyData)
  | [] => some []
  | d :: ds => match toPy d, toPys ds with
    | some x, some xs => some (x :: xs)
    | _, _ => none
end
section
variable {K : PySem.W.Frag} {F : Hp}
mutual
theorem rp_dp : ∀ (d : D) (v : V) (x : PyData), Rp K F v d → toPy d = some x → Dp K F v x
  | .non, _, _, h, e => by cases h; simp only [toPy] at e; cases e; exact .non
  | .bl b, _, _, h, e => by cases h; simp only [toPy] at e; cases e; exact .bl b
  | .int i, _, _, h, e => by cases h; simp only [toPy] at e; cases e; exact .int i
  | .str i, _, _, h, e => by cases h; simp only [toPy] at e; cases e; exact .str i
  | .ty _, _, _, _, e => by simp only [toPy] at e; cases e
  | .dicK _ _, _, _, _, e => by simp only [toPy] at e; cases e
  | .dicT _ _, _, _, _, e => by simp only [toPy] at e; cases e
  | .tup ds, _, _, h, e => by
    simp only [toPy] at e
    cases h with
    | tup hf ra =>
      cases q : toPys ds with
      | none => rw [q] at e; cases e
      | some xs => rw [q] at e; cases e; exact .tup (SqT.of hf) (rp_dps ds _ xs ra q)
  | .lst ds, _, _, h, e => by
    simp only [toPy] at e
    cases h with
    | lst hf ra =>
      cases q : toPys ds with
      | none => rw [q] at e; cases e
      | some xs => rw [q] at e; cases e; exact .lst (SqL.of hf) (rp_dps ds _ xs ra q)
  | .fix ds, _, _, h, e => by simp only [toPy] at e; cases e
theorem rp_dps : ∀ (ds : List D) (vs : List V) (xs : List PyData), RpAll K F vs ds → toPys ds = some xs → DpAll K F vs xs
  | [], _, _, h, e => by cases h; simp only [toPys] at e; cases e; exact .nil
  | d :: ds, _, _, h, e => by
    cases h with
    | cons h1 h2 =>
      simp only [toPys] at e
      cases q1 : toPy d with
      | none => rw [q1] at e; cases e
      | some x =>
        cases q2 : toPys ds with
        | none => rw [q1, q2] at e; cases e
        | some xs => rw [q1, q2] at e; cases e; exact .cons (rp_dp d _ x h1 q1) (rp_dps ds _ xs h2 q2)
end
theorem dp_same {H H' : Hp} (e : Same H H') {v : V} {x : PyData} (h : Dp K H v x) : Dp K H' v x := by
  refine Dp.rec (motive_1 := fun v d _ => Dp K H' v d) (motive_2 := fun vs ds _ => DpAll K H' vs ds) ?_ ?_ ?_ ?_ ?_ ?_ ?_ ?_ h
  · exact .non
  · exact fun b => .bl b
  · exact fun i => .int i
  · exact fun x => .str x
  · exact fun h _ r => .lst (e.seq h) r
  · exact fun h _ r => .tup (same_seqT e h) r
  · exact .nil
  · exact fun _ _ r1 r2 => .cons r1 r2
end
/-- a == b -/
def eqD (x y : D) : Option Bool := match toPy x, toPy y with
  | some a, some b => if SeqAt.shaped a = true ∧ SeqAt.shaped b = true then some (PyData.eqv a b) else none
  | _, _ => none
def dEq (x y : D) : Option D := (eqD x y).map .bl
def dNe (x y : D) : Option D := (eqD x y).map fun b => .bl (!b)
theorem eqD_of {x y : D} {c : Bool} (h : eqD x y = some c) : ∃ a b, toPy x = some a ∧ toPy y = some b ∧ SeqAt.shaped a = true ∧ SeqAt.shaped b = true ∧ c = PyData.eqv a b := by
  unfold eqD at h
  split at h
  · rename_i a b e1 e2
    split at h
    · rename_i hc
      cases h
      exact ⟨a, b, e1, e2, hc.1, hc.2, rfl⟩
    · cases h
  · cases h
theorem imp_eq {K : PySem.W.Frag} : Imp2 K dEq (rEqD K) := fun F H v w x y d Q ex rv rw e o => by
  unfold dEq at e
  cases q : eqD x y with
  | none => rw [q] at e; cases e
  | some c =>
    rw [q] at e
    cases e
    obtain ⟨a, b, h1, h2, h3, h4, rfl⟩ := eqD_of q
    exact ⟨a, b, dp_same ex (rp_dp _ _ _ rv h1), dp_same ex (rp_dp _ _ _ rw h2), h3, h4, o.here ex (.bl _)⟩
theorem imp_ne {K : PySem.W.Frag} : Imp2 K dNe (rNeD K) := fun F H v w x y d Q ex rv rw e o => by
  unfold dNe at e
  cases q : eqD x y with
  | none => rw [q] at e; cases e
  | some c =>
    rw [q] at e
    cases e
    obtain ⟨a, b, h1, h2, h3, h4, rfl⟩ := eqD_of q
    exact ⟨a, b, dp_same ex (rp_dp _ _ _ rv h1), dp_same ex (rp_dp _ _ _ rw h2), h3, h4, o.here ex (.bl _)⟩
/-- x in xs, a list, data of any depth -/
def inD (x y : D) : Option Bool := match toPy x, (match y with | .lst ds => toPys ds | _ => none) with
  | some a, some bs => if SeqAt.shaped a = true ∧ SeqAt.shaped (.list bs) = true then some (bs.any fun z => PyData.eqv z a) else none
  | _, _ => none
def dIn (x y : D) : Option D := (inD x y).map .bl
def dNotIn (x y : D) : Option D := (inD x y).map fun b => .bl (!b)
theorem inD_of {K : PySem.W.Frag} {F : Hp} {x y : D} {w : V} {c : Bool} (rw : Rp K F w y) (h : inD x y = some c) : ∃ a bs, toPy x = some a ∧ Dp K F w (.list bs) ∧ SeqAt.shaped a = true ∧ SeqAt.shaped (.list bs) = true ∧ c = bs.any fun z => PyData.eqv z a := by
  unfold inD at h
  cases q1 : toPy x with
  | none => rw [q1] at h; cases h
  | some a =>
    rw [q1] at h
    have fin : ∀ ds bs, toPys ds = some bs → Dp K F w (.list bs) → (if SeqAt.shaped a = true ∧ SeqAt.shaped (.list bs) = true then some (bs.any fun z => PyData.eqv z a) else none) = some c → ∃ a' bs, some a = some a' ∧ Dp K F w (.list bs) ∧ SeqAt.shaped a' = true ∧ SeqAt.shaped (.list bs) = true ∧ c = bs.any fun z => PyData.eqv z a' := fun ds bs _ hd h => by
      split at h
      · rename_i hc
        cases h
        exact ⟨a, bs, rfl, hd, hc.1, hc.2, rfl⟩
      · cases h
    cases y with
    | lst ds =>
      simp only at h
      cases q : toPys ds with
      | none => rw [q] at h; cases h
      | some bs =>
        rw [q] at h
        exact fin ds bs q (rp_dp (.lst ds) w (.list bs) rw (by simp only [toPy]; rw [q]; rfl)) h
    | fix _ => cases h
    | non => cases h
    | bl _ => cases h
    | int _ => cases h
    | str _ => cases h
    | ty _ => cases h
    | tup _ => cases h
    | dicK _ _ => cases h
    | dicT _ _ => cases h
    | dicN _ _ => cases h
    | exn _ => cases h
    | inst _ _ => cases h
    | _ => cases h
theorem imp_in {K : PySem.W.Frag} : Imp2 K dIn (rInD K) := fun F H v w x y d Q ex rv rw e o => by
  unfold dIn at e
  cases q : inD x y with
  | none => rw [q] at e; cases e
  | some c =>
    rw [q] at e
    cases e
    obtain ⟨a, bs, h1, h2, h3, h4, rfl⟩ := inD_of rw q
    exact ⟨a, bs, dp_same ex (rp_dp _ _ _ rv h1), dp_same ex h2, h3, h4, o.here ex (.bl _)⟩
theorem imp_notIn {K : PySem.W.Frag} : Imp2 K dNotIn (rNotInD K) := fun F H v w x y d Q ex rv rw e o => by
  unfold dNotIn at e
  cases q : inD x y with
  | none => rw [q] at e; cases e
  | some c =>
    rw [q] at e
    cases e
    obtain ⟨a, bs, h1, h2, h3, h4, rfl⟩ := inD_of rw q
    exact ⟨a, bs, dp_same ex (rp_dp _ _ _ rv h1), dp_same ex h2, h3, h4, o.here ex (.bl _)⟩
def dIx : D → D → Option D
  | .lst ds, .int i => atI ds i
  | .fix ds, .int i => atI ds i
  | .tup ds, .int i => atI ds i
  | .str z, .int i => if z.length ≤ sizeLine then (atI z.cps.toList i).map fun c => .str ⟨#[c]⟩ else none
  | _, _ => none
theorem imp_ix {K : PySem.W.Frag} : Imp2 K dIx (rIx K) := fun F H v w x y d Q ex rv rw e o => by
  unfold dIx at e
  split at e
  · cases rw
    cases rv with
    | lst hf ra => obtain ⟨u, hu, ru⟩ := atI_rp ra e; exact .inl ⟨_, _, _, u, rfl, rfl, SqL.of (ex _ _ hf), hu, o.here ex ru⟩
  · cases rw
    cases rv with
    | fix hf ra => obtain ⟨u, hu, ru⟩ := atI_rp ra e; exact .inl ⟨_, _, _, u, rfl, rfl, ex.seq hf, hu, o.here ex ru⟩
  · cases rw
    cases rv with
    | tup hf ra => obtain ⟨u, hu, ru⟩ := atI_rp ra e; exact .inr (.inl ⟨_, _, _, u, rfl, rfl, SqT.of (ex _ _ hf), hu, o.here ex ru⟩)
  · split at e
    · rename_i hz
      cases rw; cases rv
      rename_i z i
      cases q : atI z.cps.toList i with
      | none => rw [q] at e; cases e
      | some c => rw [q] at e; cases e; exact .inr (.inr ⟨z, i, c, rfl, rfl, hz, q, o.here ex (.str _)⟩)
    · cases e
  · cases e
def dLen : List D → Option D
  | [.lst ds] => some (.int (ds.length : Nat))
  | [.fix ds] => some (.int (ds.length : Nat))
  | [.tup ds] => some (.int (ds.length : Nat))
  | [.str z] => if z.length ≤ sizeLine then some (.int (z.length : Nat)) else none
  | _ => none
def rLenAll (K : PySem.W.Frag) : List V → Hp → VK → Prop := fun xs H Q => (∃ p ys, xs = [.ref p] ∧ (SqL K H p ys ∨ SqT K H p ys) ∧ Q (.int ys.length) H) ∨ (∃ z, xs = [.str z] ∧ z.length ≤ sizeLine ∧ Q (.int z.length) H)
theorem call_lenAll {X : Cx} : CallR X (.builtin "len") (rLenAll X.K) := call_len_seq.or call_len_str
theorem imp_len {K : PySem.W.Frag} : ImpL K dLen (rLenAll K) := fun F H vs ds d Q ex ra e o => by
  unfold dLen at e
  split at e
  · cases e
    cases ra with
    | cons a b => cases b; cases a with | lst hf r => exact .inl ⟨_, _, rfl, .inl (SqL.of (ex _ _ hf)), o.here ex (by rw [← r.length]; exact .int _)⟩
  · cases e
    cases ra with
    | cons a b => cases b; cases a with | fix hf r => exact .inl ⟨_, _, rfl, .inl (ex.seq hf), o.here ex (by rw [← r.length]; exact .int _)⟩
  · cases e
    cases ra with
    | cons a b => cases b; cases a with | tup hf r => exact .inl ⟨_, _, rfl, .inr (SqT.of (ex _ _ hf)), o.here ex (by rw [← r.length]; exact .int _)⟩
  · split at e
    · cases e
      cases ra with
      | cons a b => cases b; cases a; exact .inr ⟨_, rfl, by assumption, o.here ex (.int _)⟩
    · cases e
  · cases e
def dAbs : List D → Option D
  | [.int i] => some (.int (if i < 0 then -i else i))
  | _ => none
def dMax2 : List D → Option D
  | [.int i, .int j] => some (.int (if j > i then j else i))
  | _ => none
theorem imp_max2 {K : PySem.W.Frag} : ImpL K dMax2 (fun xs H Q => ∃ i j, xs = [.int i, .int j] ∧ Q (.int (if j > i then j else i)) H) := fun F H vs ds d Q ex ra e o => by
  unfold dMax2 at e
  split at e
  · cases e
    cases ra with
    | cons a b => cases b with | cons b c => cases c; cases a; cases b; exact ⟨_, _, rfl, o.here ex (.int _)⟩
  · cases e
def dMin2 : List D → Option D
  | [.int i, .int j] => some (.int (if j < i then j else i))
  | _ => none
theorem imp_min2 {K : PySem.W.Frag} : ImpL K dMin2 (fun xs H Q => ∃ i j, xs = [.int i, .int j] ∧ Q (.int (if j < i then j else i)) H) := fun F H vs ds d Q ex ra e o => by
  unfold dMin2 at e
  split at e
  · cases e
    cases ra with
    | cons a b => cases b with | cons b c => cases c; cases a; cases b; exact ⟨_, _, rfl, o.here ex (.int _)⟩
  · cases e
def dInt : List D → Option D
  | [.int i] => some (.int i)
  | [.bl b] => some (.int (if b then 1 else 0))
  | _ => none
theorem imp_int {K : PySem.W.Frag} : ImpL K dInt (fun xs H Q => (∃ i, xs = [.int i] ∧ Q (.int i) H) ∨ ∃ k, xs = [.bl k] ∧ Q (.int (if k then 1 else 0)) H) := fun F H vs ds d Q ex ra e o => by
  unfold dInt at e
  split at e
  · cases e
    cases ra with
    | cons a b => cases b; cases a; exact .inl ⟨_, rfl, o.here ex (.int _)⟩
  · cases e
    cases ra with
    | cons a b => cases b; cases a; exact .inr ⟨_, rfl, o.here ex (.int _)⟩
  · cases e
/-- list(x), tuple(x) -/
def dList : List D → Option D
  | [.lst ds] => some (.lst ds)
  | [.fix ds] => some (.lst ds)
  | [.tup ds] => some (.lst ds)
  | _ => none
theorem imp_list {K : PySem.W.Frag} : ImpLN K dList (fun xs H Q => ∃ p ys, xs = [.ref p] ∧ (SqL K H p ys ∨ SqT K H p ys) ∧ ∀ l, H l = none → Q (.ref l) (upd H l (.lst ys))) := fun F H vs ds d Q ex ra e o => by
  unfold dList at e
  split at e
  · cases e
    cases ra with
    | cons a b => cases b; cases a with | lst hf r => exact ⟨_, _, rfl, .inl (SqL.of (ex _ _ hf)), fun l hl => o.new ex hl (.lst r)⟩
  · cases e
    cases ra with
    | cons a b => cases b; cases a with | fix hf r => exact ⟨_, _, rfl, .inl (ex.seq hf), fun l hl => o.new ex hl (.lst r)⟩
  · cases e
    cases ra with
    | cons a b => cases b; cases a with | tup hf r => exact ⟨_, _, rfl, .inr (SqT.of (ex _ _ hf)), fun l hl => o.new ex hl (.lst r)⟩
  · cases e
def dTuple : List D → Option D
  | [.lst ds] => some (.tup ds)
  | [.fix ds] => some (.tup ds)
  | [.tup ds] => some (.tup ds)
  | _ => none
theorem imp_tuple {K : PySem.W.Frag} : ImpL K dTuple (fun xs H Q => ∃ p ys, xs = [.ref p] ∧ ((SqL K H p ys ∧ ∀ l, H l = none → Q (.ref l) (upd H l (.tup ys))) ∨ (SqT K H p ys ∧ Q (.ref p) H))) := fun F H vs ds d Q ex ra e o => by
  unfold dTuple at e
  split at e
  · cases e
    cases ra with
    | cons a b =>
      cases b
      cases a with
      | lst hf r => exact ⟨_, _, rfl, .inl ⟨SqL.of (ex _ _ hf), fun l hl => o.new ex hl (.tup upd_same (r.mono (Gr.new (o := .tup _) ex hl).ex))⟩⟩
  · cases e
    cases ra with
    | cons a b =>
      cases b
      cases a with
      | fix hf r => exact ⟨_, _, rfl, .inl ⟨ex.seq hf, fun l hl => o.new ex hl (.tup upd_same (r.mono (Gr.new (o := .tup _) ex hl).ex))⟩⟩
  · cases e
    cases ra with
    | cons a b => cases b; cases a with | tup hf r => exact ⟨_, _, rfl, .inr ⟨SqT.of (ex _ _ hf), o.here ex (.tup hf r)⟩⟩
  · cases e
section
variable {X : Cx} {E : EW}
end
end G


namespace G
open PySem PySem.Spec PyProof.Rows L2

section
variable {X : Cx} {E : EW} {a b : Expr} {pos : Pos} {ta tb : XV}
def dBl (f : D → D → Option D) (x y : D) : Option Bool := match f x y with
  | some (.bl b) => some b
  | _ => none
theorem dBl_of {f : D → D → Option D} {x y : D} {b : Bool} (h : dBl f x y = some b) : f x y = some (.bl b) := by
  unfold dBl at h
  split at h
  · cases h; assumption
  · cases h
theorem same_frz {F H : Hp} {p : Addr} {o : HO} (e : Same F H) (hh : H p = some o) : Same (upd F p o) H := fun b u q => by
  by_cases hb : b = p
  · subst hb; rw [upd_same] at q; rw [hh]; exact q
  · rw [upd_ne hb] at q; exact e b u q
theorem out_peek {K : PySem.W.Frag} {F H : Hp} {p : Addr} {o : HO} {c : Bool} {Q : VK} (e : Same F H) (hf : F p = none) (hh : H p = some o) (h : ∀ F' H', Gr F H F' H' → Q (.bl c) H') : OutV K (upd F p o) H (.bl c) Q := fun v F' H' g rv => by
  cases rv
  exact h F H' ⟨Same.refl F, g.exH, fun b u q => g.exH b u (e b u q), fun _ _ _ _ h2 => h2⟩
def xCmpO (f : D → D → Option D) (ta : XV) (i : Nat) : XV := fun ρ => (ta ρ).bind fun x ρ1 => match rdD i ρ1 with
  | some y => match dBl f x y with
    | some b => .ok (.bl b) ρ1
    | none => .bad
  | none => .bad
/-- read for a while as if it were frozen -/
theorem ra_peek {K : PySem.W.Frag} {F H : Hp} {v : V} {d : D} (e : Same F H) (h : Ra K F H v d) : ∃ F2, Same F F2 ∧ Same F2 H ∧ Rp K F2 v d ∧ ∀ (c : Bool) (Q : VK), (∀ F' H', Gr F H F' H' → Q (.bl c) H') → OutV K F2 H (.bl c) Q := by
  cases h with
  | val r n => exact ⟨F, Same.refl F, e, r, fun c Q h v F' H' g rv => by cases rv; exact h F' H' g⟩
  | @own p o _ h1 h2 h3 => exact ⟨upd F p o, fun b' u q => by rw [upd_ne (ne_of_none q h1)]; exact q, same_frz e h2, ro_rp h1 h3, fun c Q h => out_peek e h1 h2 h⟩
theorem xe_cmpO {op : CmpOp} {f : D → D → Option D} {r : R2} {i : Nat} {x : Str} {xp : Pos} (ho : OpR X (compareOp op) r) (hi : Imp2 X.K f r) (ha : PE X a (lE X.K E ta)) (hb : PE X (.Name x xp) (tVar i)) (hm : behindInMarks op (.Name x xp) = false) : PE X (.Compare a [op] [.Name x xp] pos) (lE X.K E (xCmpO f ta i)) := by
  refine pe_imp (pe_cmpR ho ha hb hm) fun σ H Q h => ?_
  obtain ⟨F, ρ, r, p⟩ := h
  refine ⟨F, ρ, r, (Pend.bind r p).mono fun d ρ1 F1 H1 g1 q v rv => ?_⟩
  unfold Pend at q
  cases e0 : rdD i ρ1 with
  | none => simp only [e0] at q
  | some y =>
    simp only [e0] at q
    cases e1 : dBl f d y with
    | none => simp only [e1] at q
    | some c =>
      simp only [e1] at q
      obtain ⟨w, h1, h2⟩ := g1.rel.rd e0
      obtain ⟨F2, s1, s2, rw, k⟩ := ra_peek g1.rel.ex h2
      exact ⟨w, h1, hi F2 H1 v w d y _ Q s2 (rv.mono s1) rw (dBl_of e1) (k c Q fun F' H' g => q F' H' (g.go g1.rel) _ (.bl c))⟩
def xCmpOL (f : D → D → Option D) (i : Nat) (tb : XV) : XV := fun ρ => match rdD i ρ with
  | none => .bad
  | some _ => (tb ρ).bind fun y ρ1 => match rdD i ρ1 with
    | some x => match dBl f x y with
      | some b => .ok (.bl b) ρ1
      | none => .bad
    | none => .bad
def xCallT (g : DF) (tn : XV) (t : XA) : XV := fun ρ => (tn ρ).bind fun d0 ρ1 => (t ρ1).bind fun ds ρ2 => match g (d0 :: ds) with
  | .ok d [_] => .ok d ρ2
  | .exc c [_] => .exc c ρ2
  | _ => .bad
end
section
variable {X : Cx} {cv : String → Value} {pos : Pos} {W : WX}
end
section
variable {X : Cx} {E : EW} {pos : Pos}
def iSeq (K : PySem.W.Frag) (tl : TE) : TI := fun σ H R => tl σ H fun x H1 => (∃ a, x = .ref a ∧ (∃ xs, SqL K H1 a xs) ∧ R (Itl K a) H1) ∨ ∃ a, x = .ref a ∧ (∃ xs, SqT K H1 a xs) ∧ R (Itt K a) H1
theorem pi_seq {tg l : Expr} {tl : TE} (hl : PE X l tl) : PI X tg l (iSeq X.K tl) := by
  refine ⟨fun pins s σ H R I h => ?_⟩
  refine thn (hl.run pins s σ H _ I h) fun v s1 ⟨x, H1, I1, r1, q1⟩ => ?_
  rcases q1 with ⟨a, e, ⟨xs, hq⟩, q⟩ | ⟨a, e, ⟨xs, hq⟩, q⟩
  · subst e
    cases r1
    obtain ⟨its, rv, p, hz⟩ := I1.list hq
    refine wpAny_pyIter_list p.isList ?_
    refine ⟨s1.heap.objs.size, [s1.heap.objs.size], _, _, H1, rfl, I1.kept (t' := s1.toks) fun b o e => Heap.get?_push_of_some _ e, turn_list a _, ⟨_, Heap.get?_push_size _ rfl, rfl, rfl⟩, fun b hb => ?_, q⟩
    have e : b = s1.heap.objs.size := by simpa using hb
    subst e
    exact I1.fpOk (Nat.le_refl _) (I1.hok.fresh (Nat.le_refl _))
  · subst e
    cases r1
    obtain ⟨its, rv, p, hz⟩ := I1.tuple hq
    refine wpAny_pyIter_tuple (show s1.heap.IsTuple a its.toArray from p) ?_
    refine ⟨s1.heap.objs.size, [s1.heap.objs.size], _, _, H1, rfl, I1.kept (t' := s1.toks) fun b o e => Heap.get?_push_of_some _ e, turn_tuple a _, ⟨_, Heap.get?_push_size _ rfl, rfl, rfl⟩, fun b hb => ?_, q⟩
    have e : b = s1.heap.objs.size := by simpa using hb
    subst e
    exact I1.fpOk (Nat.le_refl _) (I1.hok.fresh (Nat.le_refl _))
def xIt (t : XV) : XA := fun ρ => (t ρ).bind (lift dItems)
theorem xi_seq {tg e : Expr} {t : XV} (h : PE X e (lE X.K E t)) : PI X tg e (lI X.K E (xIt t)) := pi_imp (pi_seq h) fun σ H R h => by
  obtain ⟨F, ρ, r, p⟩ := h
  refine ⟨F, ρ, r, (Pend.bind r p).mono fun x ρ1 F1 H1 g1 q v rv => ?_⟩
  obtain ⟨d, e, q⟩ := q.lift
  cases rv with
  | lst hf ra => cases e; exact .inl ⟨_, rfl, ⟨_, SqL.of (g1.rel.ex _ _ hf)⟩, q F1 H1 (Go.refl g1.rel) _ (iters_list (fun ρ2 σ2 F2 H2 g => SqL.of (g.rel.ex _ _ (g.ex _ _ hf))) ra)⟩
  | fix hf ra => cases e; exact .inl ⟨_, rfl, ⟨_, g1.rel.ex.seq hf⟩, q F1 H1 (Go.refl g1.rel) _ (iters_list (fun ρ2 σ2 F2 H2 g => g.rel.ex.seq (g.ex.seq hf)) ra)⟩
  | tup hf ra => cases e; exact .inr ⟨_, rfl, ⟨_, SqT.of (g1.rel.ex _ _ hf)⟩, q F1 H1 (Go.refl g1.rel) _ (iters_tup hf ra)⟩
  | non => cases e
  | bl _ => cases e
  | int _ => cases e
  | str _ => cases e
  | ty _ => cases e
  | dicK _ _ _ => cases e
  | dicT _ _ _ => cases e
  | dicN _ _ _ _ => cases e
  | exn _ _ => cases e
  | inst _ _ _ _ => cases e
  | _ => cases e
end
section
variable {K : PySem.W.Frag} {E : EW} {σ σ' : L2.St} {F H F' H' : Hp} {ρ ρ' : Rho} {i : Nat} {d : D}
theorem own_lock {p : Addr} (h : Own (ρ.set i (.rd d)) σ p) : Own ρ σ p ∧ True := by
  obtain ⟨j, e, h1, h2⟩ := h
  rcases get_set h1 with ⟨_, z⟩ | ⟨_, h1⟩
  · cases z
  · exact ⟨⟨j, e, h1, h2⟩, trivial⟩
theorem lock_not {p : Addr} (r : Rel K F H ρ σ) (hi : ρ[i]? = some (.own d)) (hs : σ[i]? = some (some (.ref p))) : ¬ Own (ρ.set i (.rd d)) σ p := by
  rintro ⟨j, e, h1, h2⟩
  rcases get_set h1 with ⟨_, z⟩ | ⟨hj, h1⟩
  · cases z
  · exact hj (r.dis i j d e p hi h1 hs h2)
theorem Rel.lock (r : Rel K F H ρ σ) (hi : ρ[i]? = some (.own d)) : Rel K F H (ρ.set i (.rd d)) σ := by
  refine ⟨r.ex, by rw [List.length_set]; exact r.len, fun j s o h1 h2 => ?_, fun j k d1 d2 p h1 h2 h3 h4 => ?_, fun j e p h1 h2 => ?_⟩
  · rcases get_set h1 with ⟨e, z⟩ | ⟨_, h1⟩
    · subst e z
      have := r.at' i _ _ hi h2
      cases this with
      | own a b c => exact .rd (.own a b c)
    · exact r.at' j s o h1 h2
  · rcases get_set h1 with ⟨_, z⟩ | ⟨_, h1⟩
    · cases z
    · rcases get_set h2 with ⟨_, z⟩ | ⟨_, h2⟩
      · cases z
      · exact r.dis j k d1 d2 p h1 h2 h3 h4
  · rcases get_set h1 with ⟨ej, _⟩ | ⟨_, h1⟩
    · subst ej
      exact lock_not r hi h2
    · exact fun z => r.rdis j e p h1 h2 (own_lock z).1
def unl (i : Nat) (ρ : Rho) : Rho := match ρ[i]? with
  | some (.rd d) => ρ.set i (.own d)
  | _ => ρ
theorem Go.unlock (h0 : i ≠ 0) (r : Rel K F H ρ σ) (hi : ρ[i]? = some (.own d)) (g : Go K (ρ.set i (.rd d)) σ F H ρ' σ' F' H') : Go K ρ σ F H (unl i ρ') σ' F' H' := by
  have l0 : (ρ.set i (Slot.rd d))[0]? = ρ[0]? := List.getElem?_set_ne h0
  have rdo : ∀ (j : Nat) (e : D), (ρ.set i (Slot.rd d))[j]? = some (.rd e) → j ≠ i → ρ[j]? = some (.rd e) := fun j e h hj => by
    rcases get_set h with ⟨z, _⟩ | ⟨_, h⟩
    · exact absurd z.symm hj
    · exact h
  obtain ⟨p, o, s1, f1, h1, ro⟩ := r.own hi
  have np := lock_not r hi s1
  have ownb : ∀ q, Own ρ' σ' q → Own ρ σ q ∨ H q = none := fun q h => by
    rcases g.own q h with z | z
    · exact .inl (own_lock z).1
    · exact .inr z
  have keep : ∀ a o, H a = some o → F a = none → ¬ Own ρ σ a → H' a = some o ∧ (NTup o → F' a = none) := fun a o e1 e2 e3 => g.keep a o e1 e2 fun z => e3 (own_lock z).1
  unfold unl
  split
  · rename_i d' e
    obtain ⟨e1, e2⟩ := g.rdb i d' e
    have hl : i < ρ.length := by
      cases Nat.lt_or_ge i ρ.length with
      | inl z => exact z
      | inr z => rw [List.getElem?_eq_none z] at hi; cases hi
    rw [List.getElem?_set_self hl] at e1
    cases e1
    obtain ⟨k1, k2'⟩ := g.keep p o h1 f1 np
    have k2 := k2' ro.nt
    have sp : σ'[i]? = some (some (.ref p)) := e2.trans s1
    have nop : ∀ (j : Nat) (e : D), ρ'[j]? = some (.own e) → σ'[j]? = some (some (.ref p)) → False := fun j e y1 y2 => by
      rcases g.own p ⟨j, e, y1, y2⟩ with z | z
      · exact np z
      · rw [h1] at z; cases z
    refine ⟨⟨g.rel.ex, by rw [List.length_set]; exact g.rel.len, fun j s v y1 y2 => ?_, fun j k d1 d2 q y1 y2 y3 y4 => ?_, fun j e q y1 y2 y3 => ?_⟩, g.ex, keep, fun q h => ?_, g.low, fun e h => ?_, fun j e h => ?_⟩
    · rcases get_set y1 with ⟨ej, z⟩ | ⟨_, y1⟩
      · subst ej z
        rw [sp] at y2
        cases y2
        exact .own k2 k1 (ro.mono g.ex)
      · exact g.rel.at' j s v y1 y2
    · rcases get_set y1 with ⟨ej, _⟩ | ⟨hj, y1⟩
      · rcases get_set y2 with ⟨ek, _⟩ | ⟨hk, y2⟩
        · exact ej.symm.trans ek
        · subst ej
          rw [sp] at y3; cases y3
          exact (nop k d2 y2 y4).elim
      · rcases get_set y2 with ⟨ek, _⟩ | ⟨hk, y2⟩
        · subst ek
          rw [sp] at y4; cases y4
          exact (nop j d1 y1 y3).elim
        · exact g.rel.dis j k d1 d2 q y1 y2 y3 y4
    · rcases get_set y1 with ⟨_, z⟩ | ⟨hj, y1⟩
      · cases z
      · obtain ⟨k, e', z1, z2⟩ := y3
        rcases get_set z1 with ⟨ek, _⟩ | ⟨_, z1⟩
        · subst ek
          rw [sp] at z2; cases z2
          obtain ⟨w1, w2⟩ := g.rdb j e y1
          rw [w2] at y2
          exact r.rdis j e p (rdo j e w1 (fun z => hj z.symm)) y2 ⟨_, d, hi, s1⟩
        · exact g.rel.rdis j e q y1 y2 ⟨k, e', z1, z2⟩
    · obtain ⟨j, e', z1, z2⟩ := h
      rcases get_set z1 with ⟨ek, _⟩ | ⟨_, z1⟩
      · subst ek
        rw [sp] at z2; cases z2
        exact .inl ⟨_, d, hi, s1⟩
      · exact ownb q ⟨j, e', z1, z2⟩
    · obtain ⟨e', h'⟩ := g.lowO e (l0.trans h)
      exact ⟨e', by rw [List.getElem?_set_ne h0]; exact h'⟩
    · rcases get_set h with ⟨_, z⟩ | ⟨hj, h⟩
      · cases z
      · obtain ⟨w1, w2⟩ := g.rdb j e h
        exact ⟨rdo j e w1 (fun z => hj z.symm), w2⟩
  · rename_i nr
    refine ⟨g.rel, g.ex, keep, ownb, g.low, fun e h => g.lowO e (l0.trans h), fun j e h => ?_⟩
    obtain ⟨w1, w2⟩ := g.rdb j e h
    exact ⟨rdo j e w1 (fun z => nr e (by rw [← z]; exact h)), w2⟩
theorem unl_own (h0 : i ≠ 0) (r : Rel K F H ρ σ) (hi : ρ[i]? = some (.own d)) (g : Go K (ρ.set i (.rd d)) σ F H ρ' σ' F' H') {p : Addr} (hn : ¬ Own ρ' σ' p) (hw : Own (ρ.set i (.rd d)) σ p ∨ H p = none) : ¬ Own (unl i ρ') σ' p := by
  unfold unl
  split
  · rename_i d' e
    rintro ⟨j, e', z1, z2⟩
    rcases get_set z1 with ⟨ek, _⟩ | ⟨_, z1⟩
    · subst ek
      obtain ⟨_, e2⟩ := g.rdb i d' e
      rw [e2] at z2
      rcases hw with hw | hw
      · exact lock_not r hi z2 hw
      · obtain ⟨q, o, s1, _, h1, _⟩ := r.own hi
        rw [s1] at z2; cases z2
        rw [hw] at h1; cases h1
    · exact hn ⟨j, e', z1, z2⟩
  · exact hn
def Res.unl {α : Type} (i : Nat) : Res α → Res α
  | .ok a ρ => .ok a (G.unl i ρ)
  | .exc c ρ => .exc c (G.unl i ρ)
  | .bad => .bad
def Fl.unl (i : Nat) : Fl → Fl
  | .nx ρ => .nx (G.unl i ρ)
  | .ret d ρ => .ret d (G.unl i ρ)
  | .brk ρ => .brk (G.unl i ρ)
  | .cnt ρ => .cnt (G.unl i ρ)
  | .exc c ρ => .exc c (G.unl i ρ)
  | .bad => .bad
def lockV {α : Type} (i : Nat) (t : Rho → Res α) : Rho → Res α := fun ρ => match ownD i ρ with
  | some d => (t (ρ.set i (.rd d))).unl i
  | none => .bad
def lockS (i : Nat) (t : XS) : XS := fun ρ => match ownD i ρ with
  | some d => (t (ρ.set i (.rd d))).unl i
  | none => .bad
end
section
variable {X : Cx} {E : EW} {fr : Bool} {pos : Pos}
theorem xn_lock (i : Nat) {e : Expr} {t : XV} (h : PE X e (lN X.K E t)) (h0 : i ≠ 0 := by decide) : PE X e (lN X.K E (lockV i t)) := pe_imp h fun σ H Q h => by
  obtain ⟨F, ρ, r, p⟩ := h
  unfold Pend lockV at p
  cases e0 : ownD i ρ with
  | none => simp only [e0] at p
  | some d =>
    simp only [e0] at p
    have hi := ownD_of e0
    refine ⟨F, _, r.lock hi, ?_⟩
    unfold Pend
    cases e1 : t (ρ.set i (.rd d)) with
    | bad => simp only [e1, Res.unl] at p
    | exc c ρ' => simp only [e1, Res.unl] at p; exact fun F' H' g => p F' H' (g.unlock h0 r hi)
    | ok a ρ' =>
      simp only [e1, Res.unl] at p
      exact fun F' H' g q o h1 h2 h3 h4 h5 => p F' H' (g.unlock h0 r hi) q o h1 h2 h3 (unl_own h0 r hi g h4 h5) (by
        rcases h5 with z | z
        · exact .inl (own_lock z).1
        · exact .inr z)
/-- walking what slot i lends -/
def xItO (i : Nat) : XA := fun ρ => match ρ[i]? with
  | some (.rd d) => lift dItems d ρ
  | _ => .bad
theorem xi_own {tg : Expr} {i : Nat} {x : Str} {xp : Pos} (ho : PE X (.Name x xp) (tVar i)) : PI X tg (.Name x xp) (lI X.K E (xItO i)) := pi_imp (pi_seq ho) fun σ H R h => by
  obtain ⟨F, ρ, r, p⟩ := h
  unfold Pend xItO at p
  split at p <;> rename_i e
  · split at e
    · rename_i ρ' d q
      have hd : rdD i ρ = some d := by unfold rdD; rw [q]
      obtain ⟨v, s1, ra⟩ := r.rd hd
      refine ⟨v, s1, ?_⟩
      unfold lift at e
      split at e
      · rename_i ds hds
        cases e
        cases ra with
        | val rv nf =>
          cases rv with
          | lst hf ra => cases hds; exact .inl ⟨_, rfl, ⟨_, SqL.of (r.ex _ _ hf)⟩, p F H (Go.refl r) _ (iters_list (fun ρ2 σ2 F2 H2 g => SqL.of (g.rel.ex _ _ (g.ex _ _ hf))) ra)⟩
          | fix hf ra => cases nf
          | tup hf ra => cases hds; exact .inr ⟨_, rfl, ⟨_, SqT.of (r.ex _ _ hf)⟩, p F H (Go.refl r) _ (iters_tup hf ra)⟩
          | non => cases hds
          | bl _ => cases hds
          | int _ => cases hds
          | str _ => cases hds
          | ty _ => cases hds
          | dicK _ _ _ => cases hds
          | dicT _ _ _ => cases hds
          | dicN _ _ _ _ => cases hds
          | exn _ _ => cases hds
          | inst _ _ _ _ => cases hds
          | _ => cases hds
        | own f1 h1 ro =>
          have nO := r.rdis i d _ q s1
          cases ro with
          | lst ra => cases hds; exact .inl ⟨_, rfl, ⟨_, SqL.of h1⟩, p F H (Go.refl r) _ (iters_list (fun ρ2 σ2 F2 H2 g => SqL.of (g.keep _ _ h1 f1 nO).1) ra)⟩
          | dicK _ _ => cases hds
          | dicT _ _ => cases hds
          | dicN _ _ => cases hds
          | ins _ _ _ => cases hds
          | _ => cases hds
      · cases e
    · cases e
  · split at e
    · unfold lift at e
      split at e <;> cases e
    · cases e
  · exact p.elim
end
theorem bt_len : bootBuiltins "len" = some (.builtin "len") := by decide +kernel
theorem bt_max : bootBuiltins "max" = some (.builtin "max") := by decide +kernel
theorem bt_min : bootBuiltins "min" = some (.builtin "min") := by decide +kernel
theorem bt_sorted : bootBuiltins "sorted" = some (.builtin "sorted") := by decide +kernel
theorem bt_any : bootBuiltins "any" = some (.builtin "any") := by decide +kernel
theorem bt_int : bootBuiltins "int" = some (.type "int") := by decide +kernel
theorem bt_list : bootBuiltins "list" = some (.type "list") := by decide +kernel
theorem bt_tuple : bootBuiltins "tuple" = some (.type "tuple") := by decide +kernel
theorem bt_set : bootBuiltins "set" = some (.type "set") := by decide +kernel
theorem hu65 {k : Nat} {A : Around} (r : Room k A) : A.units + 65 < cLine := by have := r.un; omega
theorem law_sp {K : PySem.W.Frag} {cv : String → Value} {g : DF} {H : Hp} {a : Addr} {ns : List Int} {E : XK} (hS : SqL K H a (ns.map V.int)) (h : g [.fix (ns.map D.int)] = .ok (.bl true) []) : spP K cv false [false] g [.ref a] H (fun v _ => v = .bl true) E := by
  refine ⟨H, [.fix (ns.map D.int)], Same.refl H, .val (.fix hS (RpAll.of_ints ns)) .nil, ?_⟩
  rw [h]
  exact ⟨fun _ v F' H' _ rv => by cases rv; rfl, fun z => by cases z⟩
theorem law_cx {P : Program} {w : World} {H : Hp} {s s' : Shared} {e : Value} (h : L2.CX P w [] H s (fun _ _ _ => False) e s') : False := by
  obtain ⟨_, _, _, _, _, _, _, _, _, _, _, _, z⟩ := h
  exact z
end G


namespace G
open PySem PySem.Spec PyProof.Rows L2

theorem atI_0 {α : Type} (a : α) (l : List α) : atI (a :: l) 0 = some a := atI_nat (j := 0) rfl
theorem atI_1 {α : Type} (a b : α) (l : List α) : atI (a :: b :: l) 1 = some b := atI_nat (j := 1) rfl
theorem atI_2 {α : Type} (a b c : α) (l : List α) : atI (a :: b :: c :: l) 2 = some c := atI_nat (j := 2) rfl
theorem atI_3 {α : Type} (a b c d : α) (l : List α) : atI (a :: b :: c :: d :: l) 3 = some d := atI_nat (j := 3) rfl
theorem len_sz1 {n : Nat} (h : n ≤ 100000) : n ≤ sizeLine := by rw [sizeLine_eq]; omega
theorem CMulA.l {i : Int} (j : Int) (h : -(2 ^ 64) < i ∧ i < 2 ^ 64) : CMulA i j := .inl (.inl h)
theorem CMulA.r {j : Int} (i : Int) (h : -(2 ^ 64) < j ∧ j < 2 ^ 64) : CMulA i j := .inl (.inr h)
theorem CMulA.w {i j : Int} (ha : i.natAbs < 2 ^ 10000) (hb : j.natAbs < 2 ^ 10000) : CMulA i j := .inr (wide_mul ha hb (by decide) (by decide) (by decide))
theorem CDivW.s {j : Int} (i : Int) (h : 0 < j ∧ j < 2 ^ 200) : CDivW i j := wide_div (b := 200) h.1 (by omega) (by decide) (by decide)
/-- data by number and pairs -/
theorem shaped_of {d : PyData} (h1 : d.canLay0 = true) (h2 : d.depth ≤ 64) : SeqAt.shaped d = true := by
  unfold SeqAt.shaped
  rw [h1, decide_eq_true h2]
  rfl
class Enc (α : Type) where
  enc : α → D
  py : α → PyData
  dp : Nat
  to : ∀ a, toPy (enc a) = some (py a)
  lay : ∀ a, (py a).canLay0 = true
  dep : ∀ a, (py a).depth ≤ dp
  eqv : ∀ a b, PyData.eqv (py a) (py b) = true ↔ a = b
instance : Enc Int where
  enc := D.int
  py := PyData.int
  dp := 0
  to := fun _ => rfl
  lay := fun _ => rfl
  dep := fun _ => Nat.le_refl _
  eqv := fun a b => by simp [PyData.eqv]
theorem toPys_map {α : Type} [Enc α] : ∀ l : List α, toPys (l.map Enc.enc) = some (l.map Enc.py)
  | [] => rfl
  | a :: l => by simp only [List.map_cons, toPys, Enc.to, toPys_map l]
theorem lay_map {α : Type} [Enc α] : ∀ l : List α, PyData.canLayAll0 (l.map Enc.py) = true
  | [] => rfl
  | a :: l => by simp only [List.map_cons, PyData.canLayAll0, Enc.lay, lay_map l, Bool.and_self]
theorem dep_map {α : Type} [Enc α] : ∀ l : List α, PyData.depthAll (l.map Enc.py) ≤ Enc.dp α
  | [] => Nat.zero_le _
  | a :: l => by
    have h1 := Enc.dep a
    have h2 := dep_map l
    simp only [List.map_cons, PyData.depthAll]
    omega
theorem eqv_map {α : Type} [Enc α] : ∀ l m : List α, PyData.eqvAll (l.map Enc.py) (m.map Enc.py) = true ↔ l = m
  | [], [] => by simp [PyData.eqvAll]
  | [], _ :: _ => by simp [PyData.eqvAll]
  | _ :: _, [] => by simp [PyData.eqvAll]
  | a :: l, b :: m => by simp only [List.map_cons, PyData.eqvAll, Bool.and_eq_true, Enc.eqv, eqv_map l m, List.cons.injEq]
instance {α : Type} [Enc α] : Enc (List α) where
  enc := fun l => .lst (l.map Enc.enc)
  py := fun l => .list (l.map Enc.py)
  dp := Enc.dp α + 1
  to := fun l => by simp only [toPy, toPys_map, Option.map_some]
  lay := fun l => by simp only [PyData.canLay0, lay_map]
  dep := fun l => by
    have := dep_map l
    simp only [PyData.depth]
    omega
  eqv := fun l m => by simp only [PyData.eqv, eqv_map]
/-- a tuple of things of one kind -/
structure Tup (α : Type) where
  l : List α
instance {α : Type} [Enc α] : Enc (Tup α) where
  enc := fun l => .tup (l.l.map Enc.enc)
  py := fun l => .tuple (l.l.map Enc.py)
  dp := Enc.dp α + 1
  to := fun l => by simp only [toPy, toPys_map, Option.map_some]
  lay := fun l => by simp only [PyData.canLay0, lay_map]
  dep := fun l => by
    have := dep_map l.l
    simp only [PyData.depth]
    omega
  eqv := fun l m => by
    cases l; cases m
    simp only [PyData.eqv, eqv_map, Tup.mk.injEq]
instance {α β : Type} [Enc α] [Enc β] : Enc (α × β) where
  enc := fun p => .tup [Enc.enc p.1, Enc.enc p.2]
  py := fun p => .tuple [Enc.py p.1, Enc.py p.2]
  dp := max (Enc.dp α) (Enc.dp β) + 1
  to := fun p => by simp only [toPy, toPys, Enc.to, Option.map_some]
  lay := fun p => by simp only [PyData.canLay0, PyData.canLayAll0, Enc.lay, Bool.and_self]
  dep := fun p => by
    have h1 := Enc.dep p.1
    have h2 := Enc.dep p.2
    simp only [PyData.depth, PyData.depthAll]
    omega
  eqv := fun p q => by
    simp only [PyData.eqv, PyData.eqvAll, Bool.and_eq_true, Enc.eqv, and_true]
    exact Prod.ext_iff.symm
theorem eqD_enc {α : Type} [Enc α] (h : Enc.dp α ≤ 64) (a b : α) [Decidable (a = b)] : eqD (Enc.enc a) (Enc.enc b) = some (decide (a = b)) := by
  unfold eqD
  simp only [Enc.to]
  have s : ∀ x : α, SeqAt.shaped (Enc.py x) = true := fun x => shaped_of (Enc.lay x) (Nat.le_trans (Enc.dep x) h)
  rw [if_pos ⟨s a, s b⟩]
  congr 1
  by_cases e : a = b
  · rw [decide_eq_true e]; exact (Enc.eqv a b).mpr e
  · rw [decide_eq_false e]
    cases q : PyData.eqv (Enc.py a) (Enc.py b) with
    | true => exact absurd ((Enc.eqv a b).mp q) e
    | false => rfl
theorem inD_enc {α : Type} [Enc α] (h : Enc.dp α ≤ 63) (a : α) (l : List α) [Decidable (a ∈ l)] : inD (Enc.enc a) (.lst (l.map Enc.enc)) = some (decide (a ∈ l)) := by
  unfold inD
  simp only [Enc.to, toPys_map]
  rw [if_pos ⟨shaped_of (Enc.lay a) (Nat.le_trans (Enc.dep a) (by omega)), shaped_of (by simp only [PyData.canLay0, lay_map]) (by have := dep_map l; simp only [PyData.depth]; omega)⟩]
  congr 1
  rw [Bool.eq_iff_iff]
  simp only [List.any_eq_true, List.mem_map, decide_eq_true_eq]
  constructor
  · rintro ⟨_, ⟨b, hb, rfl⟩, e⟩
    rw [(Enc.eqv b a).mp e] at hb
    exact hb
  · exact fun hm => ⟨_, ⟨a, hm, rfl⟩, (Enc.eqv a a).mpr rfl⟩
abbrev cell (x y : Int) : D := .tup [.int x, .int y]
abbrev cellP (p : Int × Int) : D := .tup [.int p.1, .int p.2]
theorem eqD_int (a b : Int) : eqD (.int a) (.int b) = some (decide (a = b)) := eqD_enc (α := Int) (by decide) a b
theorem eqD_cell (a b c d : Int) : eqD (.tup [.int a, .int b]) (.tup [.int c, .int d]) = some (decide (a = c ∧ b = d)) := by
  rw [show (D.tup [.int a, .int b]) = Enc.enc (a, b) from rfl, show (D.tup [.int c, .int d]) = Enc.enc (c, d) from rfl, eqD_enc (by decide)]
  congr 1
  simp only [Prod.mk.injEq]
theorem eqD_bl (a b : Bool) : eqD (.bl a) (.bl b) = some (a == b) := by
  unfold eqD
  simp only [toPy]
  rw [if_pos ⟨shaped_of rfl (Nat.zero_le _), shaped_of rfl (Nat.zero_le _)⟩]
  rfl
theorem forRun_inv {g : XG} {body : XS} (I : Nat → Rho → Prop) : ∀ (ds : List D) (k : Nat) (ρ : Rho), I k ρ → (∀ i d ρ, ds[i]? = some d → I (k + i) ρ → ∃ ρ1, g d ρ = some ρ1 ∧ ∃ ρ2, (body ρ1 = .nx ρ2 ∨ body ρ1 = .cnt ρ2) ∧ I (k + i + 1) ρ2) →
    ∃ ρ', forRun g body ds ρ = .nx ρ' ∧ I (k + ds.length) ρ'
  | [], k, ρ, h, _ => ⟨ρ, rfl, h⟩
  | d :: ds, k, ρ, h, hs => by
    obtain ⟨ρ1, e1, ρ2, e2, h2⟩ := hs 0 d ρ rfl h
    obtain ⟨ρ', e3, h3⟩ := forRun_inv I ds (k + 1) ρ2 h2 (fun i d' ρ3 hd hi => by
      have := hs (i + 1) d' ρ3 (by simpa using hd) (by rw [show k + (i + 1) = k + 1 + i by omega]; exact hi)
      rw [show k + (i + 1) + 1 = k + 1 + i + 1 by omega] at this
      exact this)
    refine ⟨ρ', ?_, by rw [List.length_cons, show k + (ds.length + 1) = k + 1 + ds.length by omega]; exact h3⟩
    unfold forRun
    simp only [e1]
    rcases e2 with e2 | e2 <;> simp only [e2] <;> exact e3
theorem rangeD_get {lo : Int} {n i : Nat} {d : D} (h : (rangeD lo n)[i]? = some d) : i < n ∧ d = .int (lo + (i : Nat)) := by
  unfold rangeD at h
  rw [List.getElem?_map] at h
  by_cases hi : i < n
  · rw [List.getElem?_range hi] at h
    cases h
    exact ⟨hi, rfl⟩
  · rw [List.getElem?_eq_none (by rw [List.length_range]; omega)] at h
    cases h
theorem rangeD_len (lo : Int) (n : Nat) : (rangeD lo n).length = n := by unfold rangeD; rw [List.length_map, List.length_range]
/-- a loop over a range, by an invariant -/
theorem for_range_inv {g : XG} {body : XS} {lo : Int} {n : Nat} (I : Nat → Rho → Prop) {ρ : Rho} (h0 : I 0 ρ) (hs : ∀ (i : Nat) ρ, i < n → I i ρ → ∃ ρ1, g (.int (lo + (i : Nat))) ρ = some ρ1 ∧ ∃ ρ2, (body ρ1 = .nx ρ2 ∨ body ρ1 = .cnt ρ2) ∧ I (i + 1) ρ2) : ∃ ρ', forRun g body (rangeD lo n) ρ = .nx ρ' ∧ I n ρ' := by
  obtain ⟨ρ', e, h⟩ := forRun_inv I (rangeD lo n) 0 ρ h0 (fun i d ρ hd hi => by
    obtain ⟨h1, rfl⟩ := rangeD_get hd
    rw [Nat.zero_add] at hi ⊢
    exact hs i ρ h1 hi)
  rw [rangeD_len, Nat.zero_add] at h
  exact ⟨ρ', e, h⟩
section
variable {α β : Type} (ρ ρ1 : Rho) (i : Nat) (ta tb : XV) (t u : XT) (p q : XS) (f : D → D → Option D) (g : D → Option D) (h : List D → Option D)
theorem zaa (a : α) (k : α → Rho → Res β) : (Res.ok a ρ).bind k = k a ρ := rfl
theorem zab (a : α) (k : α → Rho → Fl) : (Res.ok a ρ).fl k = k a ρ := rfl
theorem zac (c : String) (k : α → Rho → Res β) : (Res.exc c ρ).bind k = .exc c ρ := rfl
theorem zad (c : String) (k : α → Rho → Fl) : (Res.exc c ρ : Res α).fl k = .exc c ρ := rfl
theorem zae (a : α) (k : α → Rho → Res β) : (Res.ok a ρ).bindX k = k a ρ := rfl
theorem zaf : (Fl.nx ρ).seq p = p ρ := rfl
theorem zag (d : D) : (Fl.ret d ρ).seq p = .ret d ρ := rfl
theorem zah : (Fl.brk ρ).seq p = .brk ρ := rfl
theorem zai : (Fl.cnt ρ).seq p = .cnt ρ := rfl
theorem zaj (c : String) : (Fl.exc c ρ).seq p = .exc c ρ := rfl
def slotV (o : Option Slot) (ρ : Rho) : Res D := match o with
  | some (.val d) => .ok d ρ
  | _ => .bad
theorem zak : xVar i ρ = slotV ρ[i]? ρ := rfl
theorem zal (d : D) : slotV (some (.val d)) ρ = .ok d ρ := rfl
def slotT (i : Nat) (o : Option Slot) (ρ : Rho) : Res D := match o with
  | some (.own d) => .ok d (ρ.set i .emp)
  | _ => .bad
theorem zam : xTake i ρ = slotT i ρ[i]? ρ := rfl
theorem zan (d : D) : slotT i (some (.own d)) ρ = .ok d (ρ.set i .emp) := rfl
theorem zao (d : D) : xC d ρ = .ok d ρ := rfl
def liftO (o : Option β) (ρ : Rho) : Res β := match o with
  | some b => .ok b ρ
  | none => .bad
theorem zap (f : α → Option β) (a : α) : G.lift f a ρ = liftO (f a) ρ := rfl
theorem zaq (b : β) : liftO (some b) ρ = .ok b ρ := rfl
theorem zar : xOp1 g ta ρ = (ta ρ).bind (G.lift g) := rfl
def op2k (f : D → D → Option D) (tb : XV) : D → Rho → Res D := fun x ρ1 => (tb ρ1).bind (G.lift (f x))
theorem zas : xOp2 f ta tb ρ = (ta ρ).bind (op2k f tb) := rfl
theorem zat (x : D) : op2k f tb x ρ = (tb ρ).bind (G.lift (f x)) := rfl
theorem zau (a : XA) : xOpL h a ρ = (a ρ).bind (G.lift h) := rfl
theorem zav : xNil ρ = .ok [] ρ := rfl
def consk (tr : XA) : D → Rho → Res (List D) := fun x ρ1 => (tr ρ1).bind fun xs ρ2 => .ok (x :: xs) ρ2
def consk2 (x : D) : List D → Rho → Res (List D) := fun xs ρ2 => .ok (x :: xs) ρ2
theorem zaw (tr : XA) : xCons ta tr ρ = (ta ρ).bind (consk tr) := rfl
theorem zax (tr : XA) (x : D) : consk tr x ρ = (tr ρ).bind (consk2 x) := rfl
theorem zay (x : D) (xs : List D) : consk2 x xs ρ = .ok (x :: xs) ρ := rfl
def testk : D → Rho → Res Bool := fun x ρ1 => match x with
  | .bl b => .ok b ρ1
  | _ => .bad
theorem zaz : xTest ta ρ = (ta ρ).bind testk := rfl
theorem zaA (b : Bool) : testk (.bl b) ρ = .ok b ρ := rfl
def andk (u : XT) : Bool → Rho → Res Bool := fun b ρ1 => if b = true then u ρ1 else .ok false ρ1
def ork (u : XT) : Bool → Rho → Res Bool := fun b ρ1 => if b = true then .ok true ρ1 else u ρ1
def notk : Bool → Rho → Res Bool := fun b ρ1 => .ok (!b) ρ1
theorem zaB : xAnd t u ρ = (t ρ).bind (andk u) := rfl
theorem zaC : xOr t u ρ = (t ρ).bind (ork u) := rfl
theorem zaD : xNot t ρ = (t ρ).bind notk := rfl
theorem zaE : andk u true ρ = u ρ := rfl
theorem zaF : andk u false ρ = .ok false ρ := rfl
theorem zaG : ork u true ρ = .ok true ρ := rfl
theorem zaH : ork u false ρ = u ρ := rfl
theorem zaI (b : Bool) : notk b ρ = .ok (!b) ρ := rfl
def andVk (u : XV) : Bool → Rho → Res D := fun b ρ1 => if b = true then u ρ1 else .ok (.bl false) ρ1
def orVk (u : XV) : Bool → Rho → Res D := fun b ρ1 => if b = true then .ok (.bl true) ρ1 else u ρ1
def notVk : Bool → Rho → Res D := fun b ρ1 => .ok (.bl (!b)) ρ1
theorem zaJ : xAndV ta tb ρ = (xTest ta ρ).bind (andVk tb) := rfl
theorem zaK : xOrV ta tb ρ = (xTest ta ρ).bind (orVk tb) := rfl
theorem zaL : xNotV ta ρ = (xTest ta ρ).bind notVk := rfl
theorem zaM : andVk tb true ρ = tb ρ := rfl
theorem zaN : andVk tb false ρ = .ok (.bl false) ρ := rfl
theorem zaO : orVk tb true ρ = .ok (.bl true) ρ := rfl
theorem zaP : orVk tb false ρ = tb ρ := rfl
theorem zaQ (b : Bool) : notVk b ρ = .ok (.bl (!b)) ρ := rfl
def ifVk (a b : XV) : Bool → Rho → Res D := fun c ρ1 => if c = true then a ρ1 else b ρ1
theorem zaR : xIf t ta tb ρ = (t ρ).bind (ifVk ta tb) := rfl
theorem zaS : ifVk ta tb true ρ = ta ρ := rfl
theorem zaT : ifVk ta tb false ρ = tb ρ := rfl
theorem zaU : xNext ρ = .nx ρ := rfl
theorem zaV : xBrk ρ = .brk ρ := rfl
theorem zaW : xCnt ρ = .cnt ρ := rfl
theorem zaX : xSeq p q ρ = (p ρ).seq q := rfl
def dropk : D → Rho → Fl := fun _ ρ1 => .nx ρ1
theorem zaY : xDrop ta ρ = (ta ρ).fl dropk := rfl
theorem zaZ (d : D) : dropk d ρ = .nx ρ := rfl
def retk : D → Rho → Fl := fun d ρ1 => .ret d ρ1
theorem zba : xRet ta ρ = (ta ρ).fl retk := rfl
theorem zbb (d : D) : retk d ρ = .ret d ρ := rfl
def ifk (a b : XS) : Bool → Rho → Fl := fun c ρ1 => if c = true then a ρ1 else b ρ1
theorem zbc : xIfS t p q ρ = (t ρ).fl (ifk p q) := rfl
theorem zbd : ifk p q true ρ = p ρ := rfl
theorem zbe : ifk p q false ρ = q ρ := rfl
def asgO (o : Option Rho) : Fl := match o with
  | some ρ2 => .nx ρ2
  | none => .bad
def asgk (g : XG) : D → Rho → Fl := fun d ρ1 => asgO (g d ρ1)
theorem zbf (g : XG) : xAsg ta g ρ = (ta ρ).fl (asgk g) := rfl
theorem zbg (g : XG) (d : D) : asgk g d ρ = asgO (g d ρ) := rfl
theorem zbh : asgO (some ρ) = .nx ρ := rfl
theorem zbi (d : D) : gSet i d ρ = some (ρ.set i (.val d)) := rfl
theorem zbj (n : Nat) (gs : List D → Rho → Option Rho) (ds : List D) : gsTup n gs (.tup ds) ρ = if ds.length = n then gs ds ρ else none := rfl
theorem zbk (g : XG) (gs : List D → Rho → Option Rho) (d : D) (ds : List D) : gsCons g gs (d :: ds) ρ = (g d ρ).bind (gs ds) := rfl
theorem zbl : gsNil [] ρ = some ρ := rfl
def setOk (i : Nat) : D → Rho → Fl := fun d ρ1 => .nx (ρ1.set i (.own d))
theorem zbm : xSetO i ta ρ = (ta ρ).fl (setOk i) := rfl
theorem zbn (d : D) : setOk i d ρ = .nx (ρ.set i (.own d)) := rfl
def callk (g : DF) : List D → Rho → Res D := fun ds ρ1 => (g ds).res ρ1
theorem zbo (g : DF) (a : XA) : xCall g a ρ = (a ρ).bind (callk g) := rfl
theorem zbp (g : DF) (ds : List D) : callk g ds ρ = (g ds).res ρ := rfl
theorem zbq (d : D) (ps : List D) : (FR.ok d ps).res ρ = .ok d ρ := rfl
theorem zbr (c : String) (ps : List D) : (FR.exc c ps).res ρ = .exc c ρ := rfl
def ownO (o : Option Slot) : Option D := match o with
  | some (.own d) => some d
  | _ => none
theorem zbs : ownD i ρ = ownO ρ[i]? := rfl
theorem zbt (d : D) : ownO (some (.own d)) = some d := rfl
def callB2 (g : DF) (i : Nat) (ds : List D) (ρ1 : Rho) (o : Option D) : Res D := match o with
  | none => .bad
  | some d0 => (g (d0 :: ds)).resB i ρ1
def callB1 (g : DF) (i : Nat) : List D → Rho → Res D := fun ds ρ1 => callB2 g i ds ρ1 (ownD i ρ1)
def callB0 (g : DF) (i : Nat) (a : XA) (ρ : Rho) (o : Option D) : Res D := match o with
  | none => .bad
  | some _ => (a ρ).bind (callB1 g i)
theorem zbu (g : DF) (a : XA) : xCallB g i a ρ = callB0 g i a ρ (ownD i ρ) := by
  unfold xCallB callB0
  cases ownD i ρ <;> rfl
theorem zbv (g : DF) (a : XA) (d : D) : callB0 g i a ρ (some d) = (a ρ).bind (callB1 g i) := rfl
theorem zbw (g : DF) (ds : List D) : callB1 g i ds ρ = callB2 g i ds ρ (ownD i ρ) := rfl
theorem zbx (g : DF) (ds : List D) (d0 : D) : callB2 g i ds ρ (some d0) = (g (d0 :: ds)).resB i ρ := rfl
theorem zby (d e : D) : (FR.ok d [e]).resB i ρ = .ok d (ρ.set i (.own e)) := rfl
def callT2 (g : DF) (d0 : D) : List D → Rho → Res D := fun ds ρ2 => match g (d0 :: ds) with
  | .ok d [_] => .ok d ρ2
  | .exc c [_] => .exc c ρ2
  | _ => .bad
def callT1 (g : DF) (a : XA) : D → Rho → Res D := fun d0 ρ1 => (a ρ1).bind (callT2 g d0)
theorem zbz (g : DF) (a : XA) : xCallT g ta a ρ = (ta ρ).bind (callT1 g a) := rfl
theorem zbA (g : DF) (a : XA) (d0 : D) : callT1 g a d0 ρ = (a ρ).bind (callT2 g d0) := rfl
def listO (o : Option Slot) : Option (List D) := match o with
  | some (.own (.lst ds)) => some ds
  | _ => none
theorem zbB : ownL i ρ = listO ρ[i]? := rfl
theorem zbC (ds : List D) : listO (some (.own (.lst ds))) = some ds := rfl
def withO (f : List D → XS) (ρ : Rho) (o : Option (List D)) : Fl := match o with
  | some ds => f ds ρ
  | none => .bad
theorem zbD (f : List D → XS) : withL i f ρ = withO f ρ (ownL i ρ) := by
  unfold withL withO
  cases ownL i ρ <;> rfl
theorem zbE (f : List D → XS) (ds : List D) : withO f ρ (some ds) = f ds ρ := rfl
def withOV (f : List D → Rho → Res α) (ρ : Rho) (o : Option (List D)) : Res α := match o with
  | some ds => f ds ρ
  | none => .bad
def rdO (o : Option Slot) : Option D := match o with
  | some (.own d) => some d
  | some (.rd d) => some d
  | _ => none
theorem zbF : rdD i ρ = rdO ρ[i]? := rfl
theorem zbG (d : D) : rdO (some (.own d)) = some d := rfl
theorem zbH (d : D) : rdO (some (.rd d)) = some d := rfl
def rdOL (o : Option D) : Option (List D) := match o with
  | some (.lst ds) => some ds
  | _ => none
theorem zbI : rdL i ρ = rdOL (rdD i ρ) := rfl
theorem zbJ (ds : List D) : rdOL (some (.lst ds)) = some ds := rfl
theorem zbK (f : List D → Rho → Res α) : withR i f ρ = withOV f ρ (rdL i ρ) := by
  unfold withR withOV
  cases rdL i ρ <;> rfl
theorem zbL (f : List D → Rho → Res α) (ds : List D) : withOV f ρ (some ds) = f ds ρ := rfl
def appk2 (i : Nat) (d : D) : List D → XS := fun ds ρ1 => if ds.length < sizeLine then .nx (ρ1.set i (.own (.lst (ds ++ [d])))) else .bad
def appk (i : Nat) : D → Rho → Fl := fun d => withL i (appk2 i d)
def appk0 (i : Nat) (te : XV) : List D → XS := fun _ ρ => (te ρ).fl (appk i)
theorem zbM : xAppend i ta ρ = withL i (appk0 i ta) ρ := rfl
theorem zbN (ds : List D) : appk0 i ta ds ρ = (ta ρ).fl (appk i) := rfl
theorem zbO (d : D) : appk i d ρ = withL i (appk2 i d) ρ := rfl
theorem zbP (d : D) (ds : List D) (hz : ds.length < sizeLine) : appk2 i d ds ρ = .nx (ρ.set i (.own (.lst (ds ++ [d])))) := if_pos hz
def mutk (i : Nat) (f : List D → List D) : List D → XS := fun ds ρ => .nx (ρ.set i (.own (.lst (f ds))))
theorem zbQ (f : List D → List D) : xMut i f ρ = withL i (mutk i f) ρ := rfl
theorem zbR (f : List D → List D) (ds : List D) : mutk i f ds ρ = .nx (ρ.set i (.own (.lst (f ds)))) := rfl
def setO2 (i : Nat) (ρ : Rho) (o : Option (List D)) : Fl := match o with
  | some ds' => .nx (ρ.set i (.own (.lst ds')))
  | none => .bad
def setk3 (i : Nat) (d k : D) : List D → XS := fun ds ρ2 => setO2 i ρ2 (dSetAt ds k d)
def setk2 (i : Nat) (d : D) : D → Rho → Fl := fun k => withL i (setk3 i d k)
def setk1 (i : Nat) (tk : XV) (d : D) : List D → XS := fun _ ρ1 => (tk ρ1).fl (setk2 i d)
def setk0 (i : Nat) (tk : XV) : D → Rho → Fl := fun d => withL i (setk1 i tk d)
theorem zbS : xSetIx i ta tb ρ = (tb ρ).fl (setk0 i ta) := rfl
theorem zbT (d : D) : setk0 i ta d ρ = withL i (setk1 i ta d) ρ := rfl
theorem zbU (d : D) (ds : List D) : setk1 i ta d ds ρ = (ta ρ).fl (setk2 i d) := rfl
theorem zbV (d k : D) : setk2 i d k ρ = withL i (setk3 i d k) ρ := rfl
theorem zbW (d k : D) (ds : List D) : setk3 i d k ds ρ = setO2 i ρ (dSetAt ds k d) := rfl
theorem zbX (ds : List D) : setO2 i ρ (some ds) = .nx (ρ.set i (.own (.lst ds))) := rfl
theorem zbY (ds : List D) (j : Int) (d : D) : dSetAt ds (.int j) d = (ixN ds.length j).map fun m => ds.set m d := rfl
def ixk2 (i : Nat) (k : D) : List D → Rho → Res D := fun ds => G.lift (dAt ds) k
def ixk (i : Nat) : D → Rho → Res D := fun k => withR i (ixk2 i k)
def ixk0 (i : Nat) (tk : XV) : List D → Rho → Res D := fun _ ρ => (tk ρ).bind (ixk i)
theorem zbZ : xIxO i ta ρ = withR i (ixk0 i ta) ρ := rfl
theorem zca (ds : List D) : ixk0 i ta ds ρ = (ta ρ).bind (ixk i) := rfl
theorem zcb (k : D) : ixk i k ρ = withR i (ixk2 i k) ρ := rfl
theorem zcc (k : D) (ds : List D) : ixk2 i k ds ρ = liftO (dAt ds k) ρ := rfl
theorem zcd (ds : List D) (j : Int) : dAt ds (.int j) = atI ds j := rfl
def lenk : List D → Rho → Res D := fun ds ρ => .ok (.int (ds.length : Nat)) ρ
theorem zce : xLenO i ρ = withR i lenk ρ := rfl
theorem zcf (ds : List D) : lenk ds ρ = .ok (.int (ds.length : Nat)) ρ := rfl
def blO (o : Option Bool) (ρ : Rho) : Res D := match o with
  | some b => .ok (.bl b) ρ
  | none => .bad
def cmpO2 (f : D → D → Option D) (x : D) (ρ : Rho) (o : Option D) : Res D := match o with
  | some y => blO (dBl f x y) ρ
  | none => .bad
def cmpOk (f : D → D → Option D) (i : Nat) : D → Rho → Res D := fun x ρ1 => cmpO2 f x ρ1 (rdD i ρ1)
theorem zcg : xCmpO f ta i ρ = (ta ρ).bind (cmpOk f i) := rfl
theorem zch (x : D) : cmpOk f i x ρ = cmpO2 f x ρ (rdD i ρ) := rfl
theorem zci (x y : D) : cmpO2 f x ρ (some y) = blO (dBl f x y) ρ := rfl
theorem zcj (b : Bool) : blO (some b) ρ = .ok (.bl b) ρ := rfl
theorem zck (x y : D) : dBl dEq x y = eqD x y := by unfold dBl dEq; cases eqD x y <;> rfl
theorem zcl (x y : D) : dBl dNe x y = (eqD x y).map (!·) := by unfold dBl dNe; cases eqD x y <;> rfl
theorem zcm (x y : D) : dBl dIn x y = inD x y := by unfold dBl dIn; cases inD x y <;> rfl
theorem zcn (x y : D) : dBl dNotIn x y = (inD x y).map (!·) := by unfold dBl dNotIn; cases inD x y <;> rfl
def fork (g : XG) (body : XS) : List D → Rho → Fl := fun ds ρ1 => forRun g body ds ρ1
theorem zco (ti : XA) (g : XG) : xFor ti g p ρ = (ti ρ).fl (fork g p) := rfl
theorem zcp (g : XG) (ds : List D) : fork g p ds ρ = forRun g p ds ρ := rfl
theorem zcq : xIt ta ρ = (ta ρ).bind (G.lift dItems) := rfl
theorem zcr : xItR1 ta ρ = (ta ρ).bind (G.lift dRange1) := rfl
def r2k (tb : XV) : D → Rho → Res (List D) := fun x ρ1 => (tb ρ1).bind (G.lift (dRange2 x))
theorem zcs : xItR2 ta tb ρ = (ta ρ).bind (r2k tb) := rfl
theorem zct (x : D) : r2k tb x ρ = (tb ρ).bind (G.lift (dRange2 x)) := rfl
theorem zcu (n : Int) (h : inR n = true) : dRange1 (.int n) = some (rangeD 0 n.toNat) := if_pos h
theorem zcv (a b : Int) (h : inR a = true) (k : inR b = true) : dRange2 (.int a) (.int b) = some (rangeD a (b - a).toNat) := if_pos ⟨h, k⟩
theorem inR_of {n : Int} (h : -(2 ^ 62) ≤ n ∧ n < 2 ^ 62) : inR n = true := (inR_iff n).mpr h
theorem zcw : inR 0 = true := by decide
theorem zcx : inR 1 = true := by decide
theorem zcy : inR (-1) = true := by decide
theorem zcz : inR 2 = true := by decide
theorem zcA : inR 3 = true := by decide
theorem zcB : inR 4 = true := by decide
theorem zcC : inR 5 = true := by decide
theorem zcD : inR 6 = true := by decide
theorem zcE : inR 7 = true := by decide
theorem zcF : inR 8 = true := by decide
theorem zcG : inR 9 = true := by decide
theorem zcH (ds : List D) : dItems (.lst ds) = some ds := rfl
theorem zcI (ds : List D) : dItems (.tup ds) = some ds := rfl
theorem zcJ (ds : List D) : dItems (.fix ds) = some ds := rfl
/-- one turn of a loop -/
def turnFl (g : XG) (body : XS) (r : List D) (f : Fl) : Fl := match f with
  | .nx ρ2 => forRun g body r ρ2
  | .cnt ρ2 => forRun g body r ρ2
  | .brk ρ2 => .nx ρ2
  | f => f
def turnO (g : XG) (body : XS) (r : List D) (o : Option Rho) : Fl := match o with
  | none => .bad
  | some ρ1 => turnFl g body r (body ρ1)
theorem zcK (g : XG) (d : D) (r : List D) : forRun g p (d :: r) ρ = turnO g p r (g d ρ) := by
  show (match g d ρ with | none => Fl.bad | some ρ1 => match p ρ1 with | .nx ρ2 => forRun g p r ρ2 | .cnt ρ2 => forRun g p r ρ2 | .brk ρ2 => .nx ρ2 | f => f) = _
  unfold turnO turnFl
  cases g d ρ with
  | none => rfl
  | some ρ1 => cases p ρ1 <;> rfl
theorem zcL (g : XG) (r : List D) : turnO g p r (some ρ) = turnFl g p r (p ρ) := rfl
theorem zcM (g : XG) (r : List D) : turnFl g p r (.nx ρ) = forRun g p r ρ := rfl
theorem zcN (g : XG) (r : List D) : turnFl g p r (.cnt ρ) = forRun g p r ρ := rfl
theorem zcO (g : XG) (r : List D) : turnFl g p r (.brk ρ) = .nx ρ := rfl
theorem zcP (g : XG) (r : List D) (d : D) : turnFl g p r (.ret d ρ) = .ret d ρ := rfl
theorem zcQ (g : XG) (r : List D) (c : String) : turnFl g p r (.exc c ρ) = .exc c ρ := rfl
def cmpL2 (f : D → D → Option D) (y : D) (ρ : Rho) (o : Option D) : Res D := match o with
  | some x => blO (dBl f x y) ρ
  | none => .bad
def cmpL1 (f : D → D → Option D) (i : Nat) : D → Rho → Res D := fun y ρ1 => cmpL2 f y ρ1 (rdD i ρ1)
def cmpL0 (f : D → D → Option D) (i : Nat) (tb : XV) (ρ : Rho) (o : Option D) : Res D := match o with
  | none => .bad
  | some _ => (tb ρ).bind (cmpL1 f i)
theorem zcR : xCmpOL f i tb ρ = cmpL0 f i tb ρ (rdD i ρ) := by
  unfold xCmpOL cmpL0
  cases rdD i ρ <;> rfl
theorem zcS (d : D) : cmpL0 f i tb ρ (some d) = (tb ρ).bind (cmpL1 f i) := rfl
theorem zcT (y : D) : cmpL1 f i y ρ = cmpL2 f y ρ (rdD i ρ) := rfl
theorem zcU (x y : D) : cmpL2 f y ρ (some x) = blO (dBl f x y) ρ := rfl
def consR2 (x : D) : List D → Rho → Res (List D) := fun xs ρ2 => if nofx x = true then .ok (x :: xs) ρ2 else .bad
def consR1 (tr : XA) : D → Rho → Res (List D) := fun x ρ1 => (tr ρ1).bind (consR2 x)
theorem zcV (tr : XA) : xConsR ta tr ρ = (ta ρ).bind (consR1 tr) := rfl
theorem zcW (tr : XA) (x : D) : consR1 tr x ρ = (tr ρ).bind (consR2 x) := rfl
theorem zcX (ds xs : List D) : consR2 (.lst ds) xs ρ = .ok (.lst ds :: xs) ρ := rfl
theorem zcY (ds xs : List D) : consR2 (.tup ds) xs ρ = .ok (.tup ds :: xs) ρ := rfl
theorem zcZ (n : Int) (xs : List D) : consR2 (.int n) xs ρ = .ok (.int n :: xs) ρ := rfl
theorem zda (n : Bool) (xs : List D) : consR2 (.bl n) xs ρ = .ok (.bl n :: xs) ρ := rfl
theorem zdb (n : Str) (xs : List D) : consR2 (.str n) xs ρ = .ok (.str n :: xs) ρ := rfl
theorem zdc (xs : List D) : consR2 .non xs ρ = .ok (.non :: xs) ρ := rfl
def consO2 (ds : List D) (ρ1 : Rho) (o : Option D) : Res (List D) := match o with
  | some d => .ok (d :: ds) ρ1
  | none => .bad
def consO1 (j : Nat) : List D → Rho → Res (List D) := fun ds ρ1 => consO2 ds ρ1 (rdD j ρ1)
def consO0 (j : Nat) (tr : XA) (ρ : Rho) (o : Option D) : Res (List D) := match o with
  | none => .bad
  | some _ => (tr ρ).bind (consO1 j)
theorem zdd (tr : XA) : xConsO i tr ρ = consO0 i tr ρ (rdD i ρ) := by
  unfold xConsO consO0
  cases rdD i ρ <;> rfl
theorem zde (tr : XA) (d : D) : consO0 i tr ρ (some d) = (tr ρ).bind (consO1 i) := rfl
theorem zdf (ds : List D) : consO1 i ds ρ = consO2 ds ρ (rdD i ρ) := rfl
theorem zdg (d : D) (ds : List D) : consO2 ds ρ (some d) = .ok (d :: ds) ρ := rfl
def lockO (i : Nat) (t : Rho → Res α) (ρ : Rho) (o : Option D) : Res α := match o with
  | some d => (t (ρ.set i (.rd d))).unl i
  | none => .bad
theorem zdh (t : Rho → Res α) : lockV i t ρ = lockO i t ρ (ownD i ρ) := by
  unfold lockV lockO
  cases ownD i ρ <;> rfl
theorem zdi (t : Rho → Res α) (d : D) : lockO i t ρ (some d) = (t (ρ.set i (.rd d))).unl i := rfl
def lockSO (i : Nat) (t : XS) (ρ : Rho) (o : Option D) : Fl := match o with
  | some d => (t (ρ.set i (.rd d))).unl i
  | none => .bad
theorem zdj : lockS i p ρ = lockSO i p ρ (ownD i ρ) := by
  unfold lockS lockSO
  cases ownD i ρ <;> rfl
theorem zdk (d : D) : lockSO i p ρ (some d) = (p (ρ.set i (.rd d))).unl i := rfl
theorem zdl (a : α) : (Res.ok a ρ).unl i = .ok a (unl i ρ) := rfl
theorem zdm : (Fl.nx ρ).unl i = .nx (unl i ρ) := rfl
theorem zdn (d : D) : (Fl.ret d ρ).unl i = .ret d (unl i ρ) := rfl
theorem zdo : (Fl.brk ρ).unl i = .brk (unl i ρ) := rfl
theorem zdp : (Fl.cnt ρ).unl i = .cnt (unl i ρ) := rfl
theorem zdq (c : String) : (Fl.exc c ρ).unl i = .exc c (unl i ρ) := rfl
def unlO (i : Nat) (ρ : Rho) (o : Option Slot) : Rho := match o with
  | some (.rd d) => ρ.set i (.own d)
  | _ => ρ
theorem zdr : unl i ρ = unlO i ρ ρ[i]? := rfl
theorem zds (d : D) : unlO i ρ (some (.rd d)) = ρ.set i (.own d) := rfl
theorem zdt (d : D) : unlO i ρ (some (.own d)) = ρ := rfl
theorem zdu (d : D) : unlO i ρ (some (.val d)) = ρ := rfl
def itO (o : Option Slot) (ρ : Rho) : Res (List D) := match o with
  | some (.rd d) => lift dItems d ρ
  | _ => .bad
theorem zdv : xItO i ρ = itO ρ[i]? ρ := rfl
theorem zdw (d : D) : itO (some (.rd d)) ρ = liftO (dItems d) ρ := rfl
def lstk : List D → Rho → Res D := fun acc ρ2 => .ok (.lst acc) ρ2
def lcK (g : XG) (tt : XT) (te : XV) (vs : List Nat) : List D → Rho → Res D := fun ds ρ1 => if ds.length ≤ sizeLine ∧ noOwn ρ1 vs = true then (lcRun g tt te vs ds [] ρ1).bind lstk else .bad
theorem zdx (ti : XA) (g : XG) (tt : XT) (te : XV) (vs : List Nat) : xLC ti g tt te vs ρ = (ti ρ).bind (lcK g tt te vs) := rfl
theorem zdy (g : XG) (tt : XT) (te : XV) (vs : List Nat) (ds : List D) (hz : ds.length ≤ sizeLine) (hn : noOwn ρ vs = true) : lcK g tt te vs ds ρ = (lcRun g tt te vs ds [] ρ).bind lstk := if_pos ⟨hz, hn⟩
theorem zdz (acc : List D) : lstk acc ρ = .ok (.lst acc) ρ := rfl
def notOwn (o : Option Slot) : Bool := match o with
  | some (.own _) => false
  | _ => true
theorem zdA : noOwn ρ [] = true := rfl
theorem zdB (v : Nat) (vs : List Nat) : noOwn ρ (v :: vs) = (notOwn ρ[v]? && noOwn ρ vs) := rfl
theorem zdC (d : D) : notOwn (some (.val d)) = true := rfl
theorem zdD (d : D) : notOwn (some (.rd d)) = true := rfl
theorem zdE : notOwn (some .emp) = true := rfl
theorem zdF : wipeR ρ [] = ρ := rfl
theorem zdG (v : Nat) (vs : List Nat) : wipeR ρ (v :: vs) = (wipeR ρ vs).set v .emp := rfl
theorem zdH : backR ρ ρ1 [] = ρ1 := rfl
theorem zdI (v : Nat) (vs : List Nat) : backR ρ ρ1 (v :: vs) = (backR ρ ρ1 vs).set v (ρ.getD v .emp) := rfl
/-- one turn of a comprehension -/
def lcS2 (vs : List Nat) (ρ0 : Rho) : D → Rho → Res (Option D) := fun y ρ3 => .ok (some y) (backR ρ0 ρ3 vs)
def lcS1 (te : XV) (vs : List Nat) (ρ0 : Rho) : Bool → Rho → Res (Option D) := fun b ρ2 => if b = true then (te ρ2).bindX (lcS2 vs ρ0) else .ok none (backR ρ0 ρ2 vs)
def lcS0 (tt : XT) (te : XV) (vs : List Nat) (ρ0 : Rho) : Option Rho → Res (Option D)
  | none => .bad
  | some ρ1 => (tt ρ1).bindX (lcS1 te vs ρ0)
def lcStep (g : XG) (tt : XT) (te : XV) (vs : List Nat) (d : D) : Rho → Res (Option D) := fun ρ => lcS0 tt te vs ρ (g d (wipeR ρ vs))
theorem zdJ (g : XG) (tt : XT) (te : XV) (vs : List Nat) (d : D) : lcStep g tt te vs d ρ = lcS0 tt te vs ρ (g d (wipeR ρ vs)) := rfl
theorem zdK (tt : XT) (te : XV) (vs : List Nat) : lcS0 tt te vs ρ (some ρ1) = (tt ρ1).bindX (lcS1 te vs ρ) := rfl
theorem zdL (te : XV) (vs : List Nat) : lcS1 te vs ρ true ρ1 = (te ρ1).bindX (lcS2 vs ρ) := rfl
theorem zdM (te : XV) (vs : List Nat) : lcS1 te vs ρ false ρ1 = .ok none (backR ρ ρ1 vs) := rfl
theorem zdN (vs : List Nat) (d : D) : lcS2 vs ρ d ρ1 = .ok (some d) (backR ρ ρ1 vs) := rfl
theorem zdO : xYes ρ = .ok true ρ := rfl
def endP (fr : Bool) : Fl → FR
  | .ret d _ => .ok d []
  | .nx _ => if fr = true then .bad else .ok .non []
  | .exc c _ => .exc c []
  | _ => .bad
def runO (n : Nat) (fr : Bool) (body : XS) (o : Option (List Slot)) : FR := match o with
  | some ss => endP fr (body (ss ++ List.replicate (n - ss.length) .emp))
  | none => .bad
theorem zdP (md : List Bool) (n : Nat) (fr : Bool) (ds : List D) : runP md n fr p ds = runO n fr p (ini md ds) := by
  unfold runP runO endP
  cases ini md ds <;> rfl
theorem zdQ (n : Nat) (fr : Bool) (ss : List Slot) : runO n fr p (some ss) = endP fr (p (ss ++ List.replicate (n - ss.length) .emp)) := rfl
theorem zdR (fr : Bool) (d : D) : endP fr (.ret d ρ) = .ok d [] := rfl
theorem zdS : endP false (.nx ρ) = .ok .non [] := rfl
theorem zdT (fr : Bool) (c : String) : endP fr (.exc c ρ) = .exc c [] := rfl
theorem zdU : ini [] [] = some [] := rfl
theorem zdV (m : Bool) (ms : List Bool) (d : D) (ds : List D) : ini (m :: ms) (d :: ds) = (ini ms ds).map (Slot.of m d :: ·) := rfl
theorem of_f (d : D) : Slot.of false d = .val d := rfl
theorem of_t (d : D) : Slot.of true d = .rd d := rfl
def endB (fr : Bool) : Fl → FR
  | .ret d ρ => .ok d (slot0 ρ)
  | .nx ρ => if fr = true then .bad else .ok .non (slot0 ρ)
  | .exc c ρ => .exc c (slot0 ρ)
  | _ => .bad
def runBO (n : Nat) (fr : Bool) (body : XS) (d0 : D) (o : Option (List Slot)) : FR := match o with
  | some ss => endB fr (body (.own d0 :: ss ++ List.replicate (n - (ss.length + 1)) .emp))
  | none => .bad
theorem zdW (md : List Bool) (n : Nat) (fr : Bool) (d0 : D) (ds : List D) : runB md n fr p (d0 :: ds) = runBO n fr p d0 (ini md ds) := by
  show (match ini md ds with | some ss => _ | none => _) = _
  unfold runBO endB
  cases ini md ds <;> rfl
theorem zdX (n : Nat) (fr : Bool) (d0 : D) (ss : List Slot) : runBO n fr p d0 (some ss) = endB fr (p (.own d0 :: ss ++ List.replicate (n - (ss.length + 1)) .emp)) := rfl
theorem zdY (fr : Bool) (d d0 : D) : endB fr (.ret d (.own d0 :: ρ)) = .ok d [d0] := rfl
theorem zdZ (d0 : D) : endB false (.nx (.own d0 :: ρ)) = .ok .non [d0] := rfl
theorem zea (fr : Bool) (c : String) (d0 : D) : endB fr (.exc c (.own d0 :: ρ)) = .exc c [d0] := rfl
theorem zeb (a b : Int) : dAdd (.int a) (.int b) = some (.int (a + b)) := rfl
theorem zec (a b : Int) : dSub (.int a) (.int b) = some (.int (a - b)) := rfl
theorem zed {a b : Int} (hc : CMulA a b) : dMul (.int a) (.int b) = some (.int (a * b)) := if_pos hc
theorem zee {a b : Int} (hc : CDivW a b) : dDiv (.int a) (.int b) = some (.int (a / b)) := if_pos hc
theorem zef {a b : Int} (hc : 0 < b) : dMod (.int a) (.int b) = some (.int (a % b)) := if_pos hc
theorem zeg {a b : Int} (hc : CPow a b) : dPow (.int a) (.int b) = some (.int (a ^ b.toNat)) := if_pos hc
theorem zeh (c : Int → Int → Bool) (a b : Int) : dCmp c (.int a) (.int b) = some (.bl (c a b)) := rfl
theorem zei (a b : Int) : dLt (.int a) (.int b) = some (.bl (decide (a < b))) := rfl
theorem zej (a : Int) : dNeg (.int a) = some (.int (-a)) := rfl
theorem zek (x y : D) : dEq x y = (eqD x y).map .bl := rfl
theorem zel (x y : D) : dNe x y = (eqD x y).map fun b => .bl (!b) := rfl
theorem zem (x y : D) : dIn x y = (inD x y).map .bl := rfl
theorem zen (x y : D) : dNotIn x y = (inD x y).map fun b => .bl (!b) := rfl
theorem zeo (ds : List D) (j : Int) : dIx (.lst ds) (.int j) = atI ds j := rfl
theorem zep (ds : List D) (j : Int) : dIx (.tup ds) (.int j) = atI ds j := rfl
theorem zeq (ds : List D) (j : Int) : dIx (.fix ds) (.int j) = atI ds j := rfl
theorem zer (ds : List D) : dLen [.lst ds] = some (.int (ds.length : Nat)) := rfl
theorem zes (ds : List D) : dLen [.tup ds] = some (.int (ds.length : Nat)) := rfl
theorem zet (ds : List D) : dLen [.fix ds] = some (.int (ds.length : Nat)) := rfl
theorem zeu (a : Int) : dAbs [.int a] = some (.int (if a < 0 then -a else a)) := rfl
theorem dTup_ap {ds : List D} (hc : ds.length ≤ sizeLine) : dTup ds = some (.tup ds) := if_pos hc
theorem dLst_ap {ds : List D} (hc : ds.length ≤ sizeLine) : dLst ds = some (.lst ds) := if_pos hc
theorem zev (a b : D) : dTup [a, b] = some (.tup [a, b]) := dTup_ap (len_sz1 (by show 2 ≤ 100000; decide))
theorem zew (a b c : D) : dTup [a, b, c] = some (.tup [a, b, c]) := dTup_ap (len_sz1 (by show 3 ≤ 100000; decide))
theorem zex (a b c d : D) : dTup [a, b, c, d] = some (.tup [a, b, c, d]) := dTup_ap (len_sz1 (by show 4 ≤ 100000; decide))
theorem zey (a : D) : dTup [a] = some (.tup [a]) := dTup_ap (len_sz1 (by show 1 ≤ 100000; decide))
theorem zez : dTup [] = some (.tup []) := dTup_ap (len_sz1 (by show 0 ≤ 100000; decide))
theorem zeA (a b c d : D) : dLst [a, b, c, d] = some (.lst [a, b, c, d]) := dLst_ap (len_sz1 (by show 4 ≤ 100000; decide))
theorem zeB : dLst [] = some (.lst []) := dLst_ap (len_sz1 (by show 0 ≤ 100000; decide))
theorem zeC (a : D) : dLst [a] = some (.lst [a]) := dLst_ap (len_sz1 (by show 1 ≤ 100000; decide))
theorem zeD (a b : D) : dLst [a, b] = some (.lst [a, b]) := dLst_ap (len_sz1 (by show 2 ≤ 100000; decide))
theorem zeE (a b c : D) : dLst [a, b, c] = some (.lst [a, b, c]) := dLst_ap (len_sz1 (by show 3 ≤ 100000; decide))
end
end G


namespace G
open PySem PySem.Spec PyProof.Rows L2
local macro_rules | `(tactic| simp! [$ls,*] $[$loc:location]?) => `(tactic| simp only [zaa, zab, zac, zad, zae, zaf, zag, zah, zai, zaj, zak, zal, zam, zan, zao, zap, zaq, zar, zas, zat, zau, zav, zaw, zax, zay, zaz, zaA, zaB, zaC, zaD, zaE, zaF, zaG, zaH, zaI, zaJ, zaK, zaL, zaM, zaN, zaO, zaP, zaQ, zaR, zaS, zaT, zaU, zaV, zaW, zaX, zaY, zaZ, zba, zbb, zbc, zbd, zbe, zbf, zbg, zbh, zbi, zbj, zbk, zbl, zbm, zbn, zbo, zbp, zbq, zbr, zbs, zbt, zbu, zbv, zbw, zbx, zby, zbz, zbA, zbB, zbC, zbD, zbE, zbF, zbG, zbH, zbI, zbJ, zbK, zbL, zbM, zbN, zbO, zbP, zbQ, zbR, zbS, zbT, zbU, zbV, zbW, zbX, zbY, zbZ, zca, zcb, zcc, zcd, zce, zcf, zcg, zch, zci, zcj, zck, zcl, zcm, zcn, zco, zcp, zcq, zcr, zcs, zct, zcu, zcv, zcw, zcx, zcy, zcz, zcA, zcB, zcC, zcD, zcE, zcF, zcG, zcH, zcI, zcJ, zcK, zcL, zcM, zcN, zcO, zcP, zcQ, zcR, zcS, zcT, zcU, zcV, zcW, zcX, zcY, zcZ, zda, zdb, zdc, zdd, zde, zdf, zdg, zdh, zdi, zdj, zdk, zdl, zdm, zdn, zdo, zdp, zdq, zdr, zds, zdt, zdu, zdv, zdw, zdx, zdy, zdz, zdA, zdB, zdC, zdD, zdE, zdF, zdG, zdH, zdI, zdJ, zdK, zdL, zdM, zdN, zdO, zdP, zdQ, zdR, zdS, zdT, zdU, zdV, G.of_f, G.of_t, zdW, zdX, zdY, zdZ, zea, zeb, zec, zed, zee, zef, zeg, zeh, zei, zej, zek, zel, zem, zen, zeo, zep, zeq, zer, zes, zet, zeu, zev, zew, zex, zey, zez, zeA, zeB, zeC, zeD, zeE, List.getElem?_cons_zero, List.getElem?_cons_succ, List.set_cons_zero, List.set_cons_succ, G.atI_0, G.atI_1, G.atI_2, G.atI_3, Option.map_some, Option.bind_some, G.eqD_int, G.eqD_cell, G.eqD_bl, List.length_cons, List.length_nil, List.getD_cons_zero, List.getD_cons_succ, Bool.and_true, Bool.and_self, decide_true, decide_false, Bool.not_true, Bool.not_false, List.append_nil, List.nil_append, List.cons_append, if_true, if_false, Bool.false_eq_true, reduceIte, Int.reduceLT, Int.reduceLE, Int.reduceToNat, Int.reducePow, Int.reduceNeg, Int.reduceAdd, Int.reduceSub, Int.reduceMul, Nat.reduceAdd, Int.reduceEq, List.replicate, Nat.reduceSub, and_self, and_true, true_and, $ls,*] $[$loc]?)

/-- a pen from which n numbers at most were drawn -/
def PenOk (n : Nat) (p : D) : Prop := ∃ a b c : Int, p = .lst [.int a, .int b, .int c] ∧ 0 ≤ c ∧ c ≤ n
theorem PenOk.mono {n m : Nat} {p : D} (h : PenOk n p) (e : n ≤ m) : PenOk m p := by
  obtain ⟨a, b, c, h1, h2, h3⟩ := h
  exact ⟨a, b, c, h1, h2, by omega⟩
def bDraw : XS := (xSeq (xSetIx 0 (xC (.int 2)) (xOp2 dAdd (xIxO 0 (xC (.int 2))) (xC (.int 1))))
    (xSeq (xIfS (xTest (xOp2 (dCmp fun i j => decide (j < i)) (xIxO 0 (xC (.int 0))) (xC (.int 0))))
    (xSeq (xSet 2 (xOp2 dMod (xIxO 0 (xC (.int 0))) (xVar 1)))
    (xSeq (xSetIx 0 (xC (.int 0)) (xOp2 dDiv (xIxO 0 (xC (.int 0))) (xVar 1)))
    (xRet (xVar 2))))
    xNext)
    (xSeq (xSet 3 (xOp2 dMod (xOp2 dAdd (xOp2 dAdd (xIxO 0 (xC (.int 1))) (xOp2 dMul (xC (.int 48271)) (xIxO 0 (xC (.int 2))))) (xC (.int 11))) (xC (.int 2147483629))))
    (xSeq (xSet 3 (xOp2 dAdd (xOp2 dMod (xOp2 dMul (xVar 3) (xVar 3)) (xC (.int 2147483587))) (xOp2 dMul (xC (.int 7919)) (xIxO 0 (xC (.int 2))))))
    (xSeq (xSet 3 (xOp2 dMod (xOp2 dMul (xVar 3) (xVar 3)) (xC (.int 2147483629))))
    (xRet (xOp2 dMod (xOp2 dDiv (xVar 3) (xC (.int 64))) (xVar 1))))))))
def fDraw : DF := runB [false] 4 false bDraw
theorem ix3 (n : Int) (h : 0 ≤ n ∧ n < 3) : ixN 3 n = some n.toNat := by
  unfold ixN
  rw [if_pos h.1, if_pos (by omega)]
theorem natAbs_lt {i : Int} {k : Nat} (h : -(2 ^ k) < i ∧ i < 2 ^ k) : i.natAbs < 2 ^ k := by
  have e : ((2 : Int) ^ k) = ((2 ^ k : Nat) : Int) := by rw [Int.natCast_pow]; rfl
  rw [e] at h
  omega
theorem draw_ex {n : Nat} {p : D} (h : PenOk n p) (hn : n < 2 ^ 60) {m : Int} (hm : 0 < m) (hm2 : m < 2 ^ 200) : ∃ r p', fDraw [p, .int m] = .ok (.int r) [p'] ∧ 0 ≤ r ∧ r < m ∧ PenOk (n + 1) p' := by
  obtain ⟨a, b, c, rfl, hc0, hc⟩ := h
  have hd : CDivW a m := CDivW.s a ⟨hm, hm2⟩
  unfold fDraw bDraw
  have i2 : ixN 3 2 = some 2 := ix3 2 ⟨by decide, by decide⟩
  have i0 : ixN 3 0 = some 0 := ix3 0 ⟨by decide, by decide⟩
  by_cases ha : 0 < a
  · simp! [i2, i0, hm, hd, ha]
    exact ⟨_, _, rfl, Int.emod_nonneg _ (by omega), Int.emod_lt_of_pos _ hm, ⟨_, _, _, rfl, by omega, by omega⟩⟩
  · have m1 : CMulA 48271 (c + 1) := CMulA.l _ ⟨by decide, by decide⟩
    have m2 : CMulA 7919 (c + 1) := CMulA.l _ ⟨by decide, by decide⟩
    have d1 : ∀ x : Int, CDivW x 64 := fun x => CDivW.s x ⟨by decide, by decide⟩
    generalize hx : (b + 48271 * (c + 1) + 11) % 2147483629 = x at *
    have hx0 : 0 ≤ x := by rw [← hx]; exact Int.emod_nonneg _ (by decide)
    have hx1 : x < 2147483629 := by rw [← hx]; exact Int.emod_lt_of_pos _ (by decide)
    have m3 : CMulA x x := CMulA.l _ ⟨by omega, by omega⟩
    generalize hy : x * x % 2147483587 + 7919 * (c + 1) = y at *
    have hy0 : 0 ≤ x * x % 2147483587 := Int.emod_nonneg _ (by decide)
    have hy1 : x * x % 2147483587 < 2147483587 := Int.emod_lt_of_pos _ (by decide)
    have m4 : CMulA y y := by
      have q : y.natAbs < 2 ^ 100 := natAbs_lt (k := 100) ⟨by omega, by omega⟩
      exact .inr (wide_mul q q (by decide) (by decide) (by decide))
    simp! [i2, i0, hm, d1, ha, slot0, m1, m2, hx, m3, hy, m4]
    exact ⟨_, _, rfl, Int.emod_nonneg _ (by omega), Int.emod_lt_of_pos _ hm, ⟨_, _, _, rfl, by omega, by omega⟩⟩
def bPen : XS := (xSeq (xSet 2 (xOp2 dAdd (xOp2 dMul (xC (.int 7919)) (xVar 1)) (xC (.int 5))))
    (xSeq (xIfS (xTest (xOp2 dLt (xVar 1) (xOpL dLen (xCons (xVar 0) xNil))))
    (xSet 2 (xOp2 dIx (xVar 0) (xVar 1)))
    (xIfS (xTest (xOp2 (dCmp fun i j => decide (j < i)) (xOpL dLen (xCons (xVar 0) xNil)) (xC (.int 0))))
    (xSet 2 (xOp2 dAdd (xOp2 dMod (xOp2 dIx (xVar 0) (xOp2 dMod (xVar 1) (xOpL dLen (xCons (xVar 0) xNil)))) (xC (.int 2147483629))) (xOp2 dMul (xC (.int 48271)) (xVar 1))))
    xNext))
    (xSeq (xIfS (xTest (xOp2 (dCmp fun i j => decide (j ≤ i)) (xVar 2) (xOp2 dPow (xC (.int 10)) (xC (.int 18)))))
    (xRet (xOpL dLst (xCons (xOp2 dSub (xVar 2) (xOp2 dPow (xC (.int 10)) (xC (.int 18)))) (xCons (xOp2 dMod (xVar 2) (xC (.int 2147483587))) (xCons (xC (.int 0)) xNil)))))
    xNext)
    (xRet (xOpL dLst (xCons (xC (.int 0)) (xCons (xOp2 dMod (xVar 2) (xC (.int 2147483587))) (xCons (xC (.int 0)) xNil))))))))
def fPen : DF := runP [false, false] 3 true bPen
theorem atI_get_int {ns : List Int} {j : Int} (h0 : 0 ≤ j) (h1 : j < ns.length) : ∃ v : Int, atI (ns.map D.int) j = some (.int v) := by
  obtain ⟨k, rfl⟩ := Int.eq_ofNat_of_zero_le h0
  have hk : k < ns.length := by omega
  refine ⟨ns[k], atI_nat ?_⟩
  rw [List.getElem?_map, List.getElem?_eq_getElem hk]
  rfl
theorem cpow10 {j : Int} (h : 0 ≤ j ∧ j ≤ 1000) : CPow 10 j := ⟨h.1, by omega, by decide⟩
theorem pen_ex (ns : List Int) (k : Nat) : ∃ p, fPen [.fix (ns.map D.int), .int (k : Nat)] = .ok p [] ∧ PenOk 0 p := by
  unfold fPen bPen
  have m0 : CMulA 7919 (k : Int) := CMulA.l _ ⟨by decide, by decide⟩
  have m1 : CMulA 48271 (k : Int) := CMulA.l _ ⟨by decide, by decide⟩
  have c1 : CPow 10 18 := cpow10 ⟨by decide, by decide⟩
  have fin : ∀ x : Int, ∃ p, endP true ((xSeq (xIfS (xTest (xOp2 (dCmp fun i j => decide (j ≤ i)) (xVar 2) (xOp2 dPow (xC (.int 10)) (xC (.int 18)))))
    (xRet (xOpL dLst (xCons (xOp2 dSub (xVar 2) (xOp2 dPow (xC (.int 10)) (xC (.int 18)))) (xCons (xOp2 dMod (xVar 2) (xC (.int 2147483587))) (xCons (xC (.int 0)) xNil)))))
    xNext)
    (xRet (xOpL dLst (xCons (xC (.int 0)) (xCons (xOp2 dMod (xVar 2) (xC (.int 2147483587))) (xCons (xC (.int 0)) xNil)))))) [.val (.fix (ns.map D.int)), .val (.int (k : Nat)), .val (.int x)]) = .ok p [] ∧ PenOk 0 p := fun x => by
    by_cases hx : (10 : Int) ^ 18 ≤ x
    · have hx' : (1000000000000000000 : Int) ≤ x := by simpa using hx
      simp! [c1, hx']
      exact ⟨_, rfl, ⟨_, _, _, rfl, by omega, by omega⟩⟩
    · have hx' : ¬ (1000000000000000000 : Int) ≤ x := by simpa using hx
      simp! [c1, hx']
      exact ⟨_, rfl, ⟨_, _, _, rfl, by omega, by omega⟩⟩
  have hl : (ns.map D.int).length = ns.length := List.length_map _
  by_cases h1 : (k : Int) < (ns.length : Int)
  · obtain ⟨v, hv⟩ := atI_get_int (ns := ns) (j := k) (by omega) h1
    simp! [m0, hl, h1, hv]
    exact fin v
  · by_cases h2 : (0 : Int) < (ns.length : Int)
    · obtain ⟨v, hv⟩ := atI_get_int (ns := ns) (j := (k : Int) % (ns.length : Int)) (Int.emod_nonneg _ (by omega)) (Int.emod_lt_of_pos _ h2)
      simp! [m0, m1, hl, h1, h2, hv]
      exact fin _
    · simp! [m0, hl, h1, h2]
      exact fin _
end G


namespace G
open PySem PySem.Spec PyProof.Rows L2

section
variable {X : Cx} {E : EW} {pos : Pos}
end
section
variable {X : Cx} {E : EW} {a b : Expr} {pos : Pos} {ta tb : XV}
end
theorem hu200 {k : Nat} {A : Around} (r : Room k A) : A.units + 200 < cLine := by have := r.un; omega
def pyOf (d : D) : PyData := (toPy d).getD .none
def insB {α : Type} (le : α → α → Bool) (a : α) : List α → List α
  | [] => [a]
  | b :: l => if le a b = true then a :: b :: l else b :: insB le a l
def isortB {α : Type} (le : α → α → Bool) : List α → List α
  | [] => []
  | a :: l => insB le a (isortB le l)
theorem insB_at {α : Type} {le : α → α → Bool} {a : α} : ∀ {l m : List α}, (∀ b ∈ l, le a b = false) → (∀ b ∈ m, le a b = true) → insB le a (l ++ m) = l ++ a :: m
  | [], [], _, _ => rfl
  | [], b :: m, _, h => by
    show (if le a b = true then a :: b :: m else _) = _
    rw [if_pos (h b (List.mem_cons_self ..))]
    rfl
  | b :: l, m, h1, h2 => by
    show (if le a b = true then _ else b :: insB le a (l ++ m)) = _
    rw [if_neg (by rw [h1 b (List.mem_cons_self ..)]; decide), insB_at (fun c hc => h1 c (List.mem_cons_of_mem _ hc)) h2]
    rfl
theorem isortB_eq {α : Type} {le : α → α → Bool} (h : PySem.W.TotalLe le) : ∀ l : List α, l.mergeSort le = isortB le l
  | [] => List.mergeSort_nil
  | a :: l => by
    obtain ⟨l₁, l₂, e1, e2, e3⟩ := List.mergeSort_cons (le := le) (fun a b c h1 h2 => h.trans a b c h1 h2) (fun a b => Bool.or_eq_true_iff.mpr (h.total a b)) a l
    have pw := PySem.W.sort_pairwise h (a :: l)
    rw [e1] at pw
    rw [e1]
    show _ = insB le a (isortB le l)
    rw [← isortB_eq h l, e2]
    exact (insB_at (fun b hb => by simpa using e3 b hb) fun b hb => (List.pairwise_cons.mp (List.pairwise_append.mp pw).2.1).1 b hb).symm
theorem leD_total {β : Type} (k : β → PyData) : PySem.W.TotalLe (PySem.W.dataLe false k) := PySem.W.sortLe_total _ _ _
def leD (a b : D) : Bool := !PySem.W.dataLt (pyOf b) (pyOf a)
def sortD (ds : List D) : List D := isortB leD ds
theorem sortD_eq (ds : List D) : sortD ds = ds.mergeSort (PySem.W.dataLe false pyOf) := (isortB_eq (leD_total _) ds).symm
def isTupC : PyData → Bool
  | .tuple (_ :: _) => true
  | _ => false
def isOne : PyData → Bool
  | .none => false
  | .tuple _ => false
  | _ => true
def sortOk (xs : List PyData) : Bool := (xs.all fun x => xs.all fun y => PySem.W.alike x y) && (xs.all isTupC || xs.all isOne) && xs.all fun x => decide (x.depth ≤ 64)
theorem sortOk_of {xs : List PyData} (h : sortOk xs = true) : PySem.W.AllAlike xs ∧ PySem.W.Sortable xs ∧ ∀ d ∈ xs, d.depth ≤ 64 := by
  unfold sortOk at h
  simp only [Bool.and_eq_true, Bool.or_eq_true, List.all_eq_true, decide_eq_true_eq] at h
  obtain ⟨⟨h1, h2⟩, h3⟩ := h
  refine ⟨h1, ?_, h3⟩
  rcases h2 with h2 | h2
  · refine .inl fun d hd => ?_
    have := h2 d hd
    unfold isTupC at this
    split at this
    · exact ⟨_, _, rfl⟩
    · cases this
  · refine .inr fun d hd => ?_
    have := h2 d hd
    refine ⟨fun e => ?_, fun xs e => ?_⟩
    · subst e; cases this
    · subst e; cases this
def rSortD (K : PySem.W.Frag) : List V → Hp → VK → Prop := fun vs H Q => ∃ (a : Addr) (xs : List V) (ds : List PyData) (bs : List (V × D)), vs = [V.ref a] ∧ SqL K H a xs ∧ DpAll K H xs ds ∧ sortOk ds = true ∧ bs.map (·.1) = xs ∧ bs.map (fun b => pyOf b.2) = ds ∧
  ∀ p, H p = none → Q (.ref p) (upd H p (.lst ((bs.mergeSort (PySem.W.dataLe false fun b => pyOf b.2)).map (·.1))))
theorem each_of_vals {xs : List V} {us : List Value} : ∀ {bs : List (V × D)}, bs.map (·.1) = xs → Vals xs us → PySem.W.EachIs (fun (u : Value) (b : V × D) => RelV b.1 u) us bs := by
  intro bs
  induction bs generalizing xs us with
  | nil => intro e r; subst e; cases r; exact .nil
  | cons b bs ih => intro e r; subst e; cases r with | cons r1 r2 => exact .cons r1 (ih rfl r2)
theorem vals_of_each {us : List Value} {bs : List (V × D)} (h : PySem.W.EachIs (fun (u : Value) (b : V × D) => RelV b.1 u) us bs) : Vals (bs.map (·.1)) us := by
  induction h with
  | nil => exact .nil
  | cons h _ ih => exact .cons h ih
theorem each_reads {h : Heap} : ∀ {us : List Value} {ds : List PyData} {as : List Addr}, ReadsAll h us ds as → PySem.W.EachIs (fun v d => ∃ as, Reads h v d as) us ds
  | _, _, _, .nil => .nil
  | _, _, _, .cons r1 r2 => .cons ⟨_, r1⟩ (each_reads r2)
theorem readsAll_keeps {h h' : Heap} (k : ∀ b o, h.get? b = some o → h'.get? b = some o) : ∀ {us : List Value} {ds : List PyData} {as : List Addr}, ReadsAll h us ds as → ReadsAll h' us ds as
  | _, _, _, .nil => .nil
  | _, _, _, .cons r1 r2 => .cons (PySem.W.reads_keeps k r1) (readsAll_keeps k r2)
theorem cr_sortedD {X : Cx} (hu : X.A.units + 200 < cLine) : CallR X (.builtin "sorted") (rSortD X.K) := by
  intro pins s σ H vs us Q I r h
  obtain ⟨a, xs, ds, bs, rfl, hs, hd, hok, e1, e2, q⟩ := h
  obtain ⟨its, rv, hl, hz⟩ := I.list hs
  rw [Vals.ref1 r]
  obtain ⟨as, hr⟩ := Dp.readsAll I ds xs its hd rv
  obtain ⟨k1, k2, k3⟩ := sortOk_of hok
  have hz' : its.length ≤ sizeLine := by rw [← rv.length]; exact hz
  have hr2 := readsAll_keeps (h' := PySem.W.sortingHeap (PySem.W.copyHeap s.heap its) (s.heap.objs.size + 1) its) (fun b o e => PySem.W.sorting_copy_old e) hr
  have S := PySem.W.SortsAt.data (prog := X.prog) (w := X.w) (A := X.A.in1.in1) (s := { s with heap := PySem.W.sortingHeap (PySem.W.copyHeap s.heap its) (s.heap.objs.size + 1) its }) (each_reads hr2) k1 k2 (fun d hm => by
    have := k3 d hm
    show X.A.units + 1 + 1 + d.depth < cLine
    omega)
  refine PySem.W.sorted_vals hl.isList S hz' ?_
  have ko : PySem.W.KeyedOut false (bs.map fun b => pyOf b.2) its (PySem.W.sortVals (PySem.W.dataKind (PySem.W.sortingHeap (PySem.W.copyHeap s.heap its) (s.heap.objs.size + 1) its) ds) false its its) := by
    rw [e2]
    exact ⟨_, its, k1, rfl, each_reads hr2⟩
  have ev := PySem.W.keyedOut_each (fun b : V × D => pyOf b.2) ko (each_of_vals e1 rv)
  have vv := vals_of_each ev
  obtain ⟨ep, he'⟩ := PyProof.Rows.sortedAll_at s.heap its (PySem.W.sortVals (PySem.W.dataKind (PySem.W.sortingHeap (PySem.W.copyHeap s.heap its) (s.heap.objs.size + 1) its) ds) false its its).toArray
  have hlen : ((bs.mergeSort (PySem.W.dataLe false fun b => pyOf b.2)).map (·.1)).length ≤ sizeLine := by
    rw [List.length_map, (List.mergeSort_perm _ _).length_eq]
    have : bs.length = xs.length := by rw [← e1, List.length_map]
    omega
  exact ⟨.ref _, upd H (s.heap.objs.size + 1) (.lst ((bs.mergeSort (PySem.W.dataLe false fun b => pyOf b.2)).map (·.1))), I.laid (t' := s.toks) (fun _ _ => PyProof.Rows.sortedAll_old) (Nat.le_succ _) ⟨hlen, _, ep, vv, he'⟩, rfl, q _ (I.hok.fresh (Nat.le_succ _))⟩
def dSorted : List D → Option D
  | [x] => (dItL x).bind fun ds => (toPys ds).bind fun xs => if sortOk xs = true then some (.lst (sortD ds)) else none
  | _ => none
theorem zip_fst {α β : Type} : ∀ {l : List α} {m : List β}, l.length = m.length → (l.zip m).map (·.1) = l
  | [], [], _ => rfl
  | a :: l, b :: m, h => by rw [List.zip_cons_cons, List.map_cons, zip_fst (by simpa using h)]
  | [], _ :: _, h => by cases h
  | _ :: _, [], h => by cases h
theorem zip_snd {α β : Type} : ∀ {l : List α} {m : List β}, l.length = m.length → (l.zip m).map (·.2) = m
  | [], [], _ => rfl
  | a :: l, b :: m, h => by rw [List.zip_cons_cons, List.map_cons, zip_snd (by simpa using h)]
  | [], _ :: _, h => by cases h
  | _ :: _, [], h => by cases h
theorem toPys_pyOf : ∀ {ds : List D} {xs : List PyData}, toPys ds = some xs → ds.map pyOf = xs
  | [], _, h => by simp only [toPys] at h; cases h; rfl
  | d :: ds, _, h => by
    simp only [toPys] at h
    cases q1 : toPy d with
    | none => rw [q1] at h; cases h
    | some x =>
      cases q2 : toPys ds with
      | none => rw [q1, q2] at h; cases h
      | some xs =>
        rw [q1, q2] at h
        cases h
        rw [List.map_cons, toPys_pyOf q2]
        unfold pyOf
        rw [q1]
        rfl
theorem rpAll_zip {K : PySem.W.Frag} {F : Hp} : ∀ {vs : List V} {ds : List D}, RpAll K F vs ds → ∀ p ∈ vs.zip ds, Rp K F p.1 p.2
  | _, _, .nil, p, h => by cases h
  | _, _, .cons a b, p, h => by
    rw [List.zip_cons_cons] at h
    rcases List.mem_cons.mp h with rfl | h
    · exact a
    · exact rpAll_zip b p h
theorem rpAll_of {K : PySem.W.Frag} {F : Hp} : ∀ {l : List (V × D)}, (∀ p ∈ l, Rp K F p.1 p.2) → RpAll K F (l.map (·.1)) (l.map (·.2))
  | [], _ => .nil
  | p :: l, h => .cons (h p (List.mem_cons_self ..)) (rpAll_of fun q hq => h q (List.mem_cons_of_mem _ hq))
theorem sort_zip {K : PySem.W.Frag} {F : Hp} {vs : List V} {ds : List D} (r : RpAll K F vs ds) : RpAll K F (((vs.zip ds).mergeSort (PySem.W.dataLe false fun b => pyOf b.2)).map (·.1)) (sortD ds) := by
  have hl := r.length
  have e : sortD ds = ((vs.zip ds).mergeSort (PySem.W.dataLe false fun b => pyOf b.2)).map (·.2) := by
    rw [sortD_eq]
    rw [show (fun x : V × D => x.2) = Prod.snd from rfl, List.map_mergeSort (f := Prod.snd) (r := PySem.W.dataLe false fun b : V × D => pyOf b.2) (s := PySem.W.dataLe false pyOf) (l := vs.zip ds) (fun a _ b _ => rfl)]
    exact congrArg (fun l => List.mergeSort l (PySem.W.dataLe false pyOf)) (zip_snd hl).symm
  rw [e]
  exact rpAll_of fun p hp => rpAll_zip r p ((List.mergeSort_perm _ _).mem_iff.mp hp)
theorem dItL_of {x : D} {ds : List D} {K : PySem.W.Frag} {F : Hp} {v : V} (h : dItL x = some ds) (r : Rp K F v x) : ∃ a xs, v = .ref a ∧ SqL K F a xs ∧ RpAll K F xs ds := by
  cases r with
  | lst hf ra => cases h; exact ⟨_, _, rfl, SqL.of hf, ra⟩
  | fix hf ra => cases h; exact ⟨_, _, rfl, hf, ra⟩
  | non => cases h
  | bl _ => cases h
  | int _ => cases h
  | str _ => cases h
  | ty _ => cases h
  | tup _ _ => cases h
  | dicK _ _ _ => cases h
  | dicT _ _ _ => cases h
  | dicN _ _ _ _ => cases h
  | exn _ _ => cases h
  | inst _ _ _ _ => cases h
  | _ => cases h
theorem dpAll_same {K : PySem.W.Frag} {H H' : Hp} (e : Same H H') : ∀ {vs : List V} {xs : List PyData}, DpAll K H vs xs → DpAll K H' vs xs
  | _, _, .nil => .nil
  | _, _, .cons a b => .cons (dp_same e a) (dpAll_same e b)
theorem dpAll_of {K : PySem.W.Frag} {F H : Hp} {ws : List V} {ys : List D} {xs : List PyData} (ex : Same F H) (rs : RpAll K F ws ys) (q2 : toPys ys = some xs) : DpAll K H ws xs := dpAll_same ex (rp_dps _ _ _ rs q2)
theorem imp_sorted {K : PySem.W.Frag} : ImpLN K dSorted (rSortD K) := fun F H vs ds d Q ex ra e o => by
  unfold dSorted at e
  split at e
  · rename_i x
    cases q1 : dItL x with
    | none => rw [q1] at e; cases e
    | some ys =>
      rw [q1] at e
      simp only [Option.bind_some] at e
      cases q2 : toPys ys with
      | none => rw [q2] at e; cases e
      | some xs =>
        rw [q2] at e
        simp only [Option.bind_some] at e
        split at e
        · rename_i hok
          cases e
          cases ra with
          | cons r1 r2 =>
            cases r2
            obtain ⟨a, ws, rfl, hs, rs⟩ := dItL_of q1 r1
            have hl := rs.length
            refine ⟨a, ws, xs, ws.zip ys, rfl, ex.seq hs, dpAll_same ex (rp_dps _ _ _ rs q2), hok, zip_fst hl, ?_, fun p hp => o.new ex hp (.lst (sort_zip rs))⟩
            have e3 := congrArg (List.map pyOf) (zip_snd hl)
            rw [List.map_map, toPys_pyOf q2] at e3
            exact e3
        · cases e
  · cases e
def dBools : List D → Option (List Bool)
  | [] => some []
  | .bl b :: r => (dBools r).map (b :: ·)
  | _ => none
theorem dBools_of : ∀ {ds : List D} {bs : List Bool}, dBools ds = some bs → ds = bs.map D.bl
  | [], bs, h => by cases h; rfl
  | .bl i :: r, bs, h => by
    unfold dBools at h
    cases q : dBools r with
    | none => rw [q] at h; cases h
    | some ms => rw [q] at h; cases h; rw [dBools_of q]; rfl
  | .non :: _, _, h => by cases h
  | .int _ :: _, _, h => by cases h
  | .str _ :: _, _, h => by cases h
  | .ty _ :: _, _, h => by cases h
  | .tup _ :: _, _, h => by cases h
  | .lst _ :: _, _, h => by cases h
  | .fix _ :: _, _, h => by cases h
  | .dicK _ _ :: _, _, h => by cases h
  | .dicT _ _ :: _, _, h => by cases h
theorem RpAll.bls {K : PySem.W.Frag} {F : Hp} : ∀ {vs : List V} {ns : List Bool}, RpAll K F vs (ns.map D.bl) → vs = ns.map V.bl
  | _, [], .nil => rfl
  | _, _ :: _, .cons (.bl _) b => by rw [RpAll.bls b]; rfl
def dAny : List D → Option D
  | [x] => (dItL x).bind fun ds => (dBools ds).map fun bs => .bl (bs.any id)
  | _ => none
theorem imp_any {K : PySem.W.Frag} : ImpL K dAny (rAny K) := fun F H vs ds d Q ex ra e o => by
  unfold dAny at e
  split at e
  · rename_i x
    cases q1 : dItL x with
    | none => rw [q1] at e; cases e
    | some ys =>
      rw [q1] at e
      simp only [Option.bind_some] at e
      cases q2 : dBools ys with
      | none => rw [q2] at e; cases e
      | some bs =>
        rw [q2] at e
        cases e
        cases ra with
        | cons r1 r2 =>
          cases r2
          obtain ⟨a, ws, rfl, hs, rs⟩ := dItL_of q1 r1
          rw [dBools_of q2] at rs
          rw [rs.bls] at hs
          exact ⟨a, bs, rfl, ex.seq hs, o.here ex (.bl _)⟩
  · cases e
end G


namespace G
open PySem PySem.Spec PyProof.Rows L2

section
variable {α : Type} {le : α → α → Bool}
theorem insB_perm (a : α) : ∀ l : List α, (insB le a l).Perm (a :: l)
  | [] => List.Perm.refl _
  | b :: l => by
    unfold insB
    split
    · exact List.Perm.refl _
    · exact ((insB_perm a l).cons b).trans (List.Perm.swap a b l)
theorem isortB_perm : ∀ l : List α, (isortB le l).Perm l
  | [] => List.Perm.refl _
  | a :: l => (insB_perm a _).trans ((isortB_perm l).cons a)
theorem isortB_pw (h : PySem.W.TotalLe le) (l : List α) : (isortB le l).Pairwise (fun a b => le a b = true) := by
  rw [← isortB_eq h]
  exact PySem.W.sort_pairwise h l
theorem isortB_of_pw (h : PySem.W.TotalLe le) : ∀ {l : List α}, l.Pairwise (fun a b => le a b = true) → isortB le l = l
  | [], _ => rfl
  | a :: l, hp => by
    obtain ⟨h1, h2⟩ := List.pairwise_cons.mp hp
    show insB le a (isortB le l) = a :: l
    rw [isortB_of_pw h h2]
    exact insB_at (l := []) (by simp) h1
theorem pw_unique (anti : ∀ a b, le a b = true → le b a = true → a = b) : ∀ {l m : List α}, l.Perm m → l.Pairwise (fun a b => le a b = true) → m.Pairwise (fun a b => le a b = true) → l = m
  | [], m, p, _, _ => (List.nil_perm.mp p).symm
  | a :: l, [], p, _, _ => by have := p.length_eq; simp at this
  | a :: l, b :: m, p, h1, h2 => by
    obtain ⟨k1, k2⟩ := List.pairwise_cons.mp h1
    obtain ⟨j1, j2⟩ := List.pairwise_cons.mp h2
    have e : a = b := by
      rcases List.mem_cons.mp (p.mem_iff.mp (List.mem_cons_self ..)) with e | e
      · exact e
      · rcases List.mem_cons.mp (p.mem_iff.mpr (List.mem_cons_self ..)) with e2 | e2
        · exact e2.symm
        · exact anti a b (k1 b e2) (j1 a e)
    subst e
    rw [pw_unique anti (List.perm_cons a |>.mp p) k2 j2]
theorem isortB_cong (h : PySem.W.TotalLe le) (anti : ∀ a b, le a b = true → le b a = true → a = b) {l m : List α} (p : l.Perm m) : isortB le l = isortB le m :=
  pw_unique anti ((isortB_perm l).trans (p.trans (isortB_perm m).symm)) (isortB_pw h l) (isortB_pw h m)
theorem insB_map {β : Type} {le2 : β → β → Bool} (f : β → α) (e : ∀ a b, le (f a) (f b) = le2 a b) (a : β) : ∀ l : List β, insB le (f a) (l.map f) = (insB le2 a l).map f
  | [] => rfl
  | b :: l => by
    show (if le (f a) (f b) = true then _ else _) = List.map f (if le2 a b = true then _ else _)
    rw [e, insB_map f e a l]
    split <;> rfl
theorem isortB_map {β : Type} {le2 : β → β → Bool} (f : β → α) (e : ∀ a b, le (f a) (f b) = le2 a b) : ∀ l : List β, isortB le (l.map f) = (isortB le2 l).map f
  | [] => rfl
  | a :: l => by
    show insB le (f a) (isortB le (l.map f)) = _
    rw [isortB_map f e l, insB_map f e a]
    rfl
end
/-- things that can be sorted -/
class EncS (α : Type) [Enc α] : Prop where
  ali : ∀ a b : α, PySem.W.alike (Enc.py a) (Enc.py b) = true
  srt : (∀ a : α, isTupC (Enc.py a) = true) ∨ ∀ a : α, isOne (Enc.py a) = true
section
variable {α : Type} [Enc α]
def leE (a b : α) : Bool := !PySem.W.dataLt (Enc.py b) (Enc.py a)
theorem pyOf_enc (a : α) : pyOf (Enc.enc a) = Enc.py a := by unfold pyOf; rw [Enc.to]; rfl
theorem leD_enc (a b : α) : leD (Enc.enc a) (Enc.enc b) = leE a b := by unfold leD leE; rw [pyOf_enc, pyOf_enc]
theorem leE_total : PySem.W.TotalLe (leE (α := α)) := leD_total (fun a : α => Enc.py a)
def sortE (l : List α) : List α := isortB leE l
theorem sortD_enc (l : List α) : sortD (l.map Enc.enc) = (sortE l).map Enc.enc := isortB_map _ leD_enc l
theorem sortE_perm (l : List α) : (sortE l).Perm l := isortB_perm l
theorem sortE_pw (l : List α) : (sortE l).Pairwise (fun a b => leE a b = true) := isortB_pw leE_total l
theorem sortE_of_pw {l : List α} (h : l.Pairwise (fun a b => leE a b = true)) : sortE l = l := isortB_of_pw leE_total h
theorem sortE_length (l : List α) : (sortE l).length = l.length := (sortE_perm l).length_eq
theorem mem_sortE {l : List α} {a : α} : a ∈ sortE l ↔ a ∈ l := (sortE_perm l).mem_iff
theorem leE_anti' (a b : α) (ali : PySem.W.alike (Enc.py a) (Enc.py b) = true) (h1 : leE a b = true) (h2 : leE b a = true) : a = b := by
  unfold leE at h1 h2
  rw [Bool.not_eq_true'] at h1 h2
  have e : PySem.W.keyToks (Enc.py a) = PySem.W.keyToks (Enc.py b) := (listOrd itemOrd).total _ _ h2 h1
  obtain ⟨_, k2⟩ := PySem.W.toks_eqv (Enc.py a) (Enc.py b) ali
  refine (Enc.eqv a b).mp ?_
  cases q : PyData.eqv (Enc.py a) (Enc.py b) with
  | true => rfl
  | false =>
    exfalso
    have := k2 q [] [Sum.inl 0]
    rw [e, List.append_nil] at this
    have i1 : PyProof.Rows.lexLt itemOrd (PySem.W.keyToks (Enc.py b)) (PySem.W.keyToks (Enc.py b)) = false := (listOrd itemOrd).irrefl _
    rw [i1] at this
    have i2 := PySem.W.lex_pre (PySem.W.keyToks (Enc.py b)) [] [Sum.inl 0]
    rw [List.append_nil, this] at i2
    cases i2
variable [EncS α]
theorem leE_anti (a b : α) (h1 : leE a b = true) (h2 : leE b a = true) : a = b := leE_anti' a b (EncS.ali a b) h1 h2
theorem sortE_cong {l m : List α} (p : l.Perm m) : sortE l = sortE m := isortB_cong leE_total leE_anti p
theorem sortOk_enc (h : Enc.dp α ≤ 64) (l : List α) : sortOk (l.map Enc.py) = true := by
  unfold sortOk
  simp only [Bool.and_eq_true, Bool.or_eq_true, List.all_eq_true, decide_eq_true_eq, List.mem_map, forall_exists_index, and_imp, forall_apply_eq_imp_iff₂]
  refine ⟨⟨fun a _ b _ => EncS.ali a b, ?_⟩, fun a _ => Nat.le_trans (Enc.dep a) h⟩
  rcases EncS.srt (α := α) with k | k
  · exact .inl fun a _ => k a
  · exact .inr fun a _ => k a
theorem dSorted_enc (h : Enc.dp α ≤ 64) (l : List α) : dSorted [.lst (l.map Enc.enc)] = some (.lst ((sortE l).map Enc.enc)) := by
  unfold dSorted dItL
  simp only [Option.bind_some, toPys_map]
  rw [if_pos (sortOk_enc h l), sortD_enc]
end
instance : EncS Int := ⟨fun _ _ => rfl, .inr fun _ => rfl⟩
instance {α β : Type} [Enc α] [Enc β] [EncS α] [EncS β] : EncS (α × β) := ⟨fun a b => by
  show PySem.W.alikeAll [Enc.py a.1, Enc.py a.2] [Enc.py b.1, Enc.py b.2] = true
  simp only [PySem.W.alikeAll, EncS.ali, Bool.and_self], .inl fun _ => rfl⟩
theorem alike_map {α : Type} [Enc α] [EncS α] : ∀ l m : List α, PySem.W.alikeAll (l.map Enc.py) (m.map Enc.py) = true
  | [], _ => by simp only [List.map_nil, PySem.W.alikeAll]
  | _ :: _, [] => by simp only [List.map_nil, List.map_cons, PySem.W.alikeAll]
  | a :: l, b :: m => by simp only [List.map_cons, PySem.W.alikeAll, EncS.ali, alike_map l m, Bool.and_self]
instance {α : Type} [Enc α] [EncS α] : EncS (List α) := ⟨fun a b => alike_map a b, .inr fun _ => rfl⟩
/-- four numbers -/
structure Q4 where
  a : Int
  b : Int
  c : Int
  d : Int
deriving DecidableEq
instance : Enc Q4 where
  enc := fun q => .tup [.int q.a, .int q.b, .int q.c, .int q.d]
  py := fun q => .tuple [.int q.a, .int q.b, .int q.c, .int q.d]
  dp := 1
  to := fun _ => rfl
  lay := fun _ => rfl
  dep := fun _ => Nat.le_refl _
  eqv := fun p q => by
    cases p; cases q
    simp [PyData.eqv, PyData.eqvAll]
instance : EncS Q4 := ⟨fun _ _ => rfl, .inl fun _ => rfl⟩
/-- what the order of cells is -/
theorem lt_int (a b : Int) : itemLt (.inl a) (.inl b) = decide (a < b) := rfl
theorem dataLt_pair (p q : Int × Int) : PySem.W.dataLt (Enc.py p) (Enc.py q) = decide (p.1 < q.1 ∨ p.1 = q.1 ∧ p.2 < q.2) := by
  rw [show (Enc.py p : PyData) = .tuple [.int p.1, .int p.2] from rfl, show (Enc.py q : PyData) = .tuple [.int q.1, .int q.2] from rfl, PySem.W.dataLt_tuple]
  simp only [PySem.W.keyToksAll, PySem.W.keyToks, List.cons_append, List.nil_append, PyProof.Rows.lexLt, lt_int]
  rw [Bool.eq_iff_iff]
  simp
  omega
theorem leE_pair (p q : Int × Int) : leE p q = decide (p.1 < q.1 ∨ p.1 = q.1 ∧ p.2 ≤ q.2) := by
  unfold leE
  rw [dataLt_pair, Bool.eq_iff_iff]
  simp
  omega
end G


namespace G
open PySem PySem.Spec PyProof.Rows L2

section
variable {g : XG} {tt : XT} {te : XV} {vs : List Nat} {ρ : Rho}
theorem lcRun_step (d : D) (r acc : List D) : lcRun g tt te vs (d :: r) acc ρ = (match lcStep g tt te vs d ρ with
    | .ok (some y) ρ' => lcRun g tt te vs r (acc ++ [y]) ρ'
    | .ok none ρ' => lcRun g tt te vs r acc ρ'
    | _ => .bad) := by
  show (match g d (wipeR ρ vs) with | none => Res.bad | some ρ1 => (tt ρ1).bindX fun b ρ2 => if b = true then (te ρ2).bindX fun y ρ3 => lcRun g tt te vs r (acc ++ [y]) (backR ρ ρ3 vs) else lcRun g tt te vs r acc (backR ρ ρ2 vs)) = _
  unfold lcStep
  cases g d (wipeR ρ vs) with
  | none => rfl
  | some ρ1 =>
    simp only [lcS0]
    cases tt ρ1 with
    | ok b ρ2 =>
      cases b with
      | false => rfl
      | true =>
        simp only [Res.bindX, lcS1, if_true]
        cases te ρ2 <;> rfl
    | exc _ _ => rfl
    | bad => rfl
theorem lcRun_cons {d y : D} {r acc : List D} {ρ' : Rho} (e : lcStep g tt te vs d ρ = .ok (some y) ρ') : lcRun g tt te vs (d :: r) acc ρ = lcRun g tt te vs r (acc ++ [y]) ρ' := by
  rw [lcRun_step, e]
theorem lcRun_skip {d : D} {r acc : List D} {ρ' : Rho} (e : lcStep g tt te vs d ρ = .ok none ρ') : lcRun g tt te vs (d :: r) acc ρ = lcRun g tt te vs r acc ρ' := by
  rw [lcRun_step, e]
theorem lcRun_map {α β : Type} {e1 : α → D} {e2 : β → D} (φ : α → β) : ∀ (l : List α) (acc : List D), (∀ a ∈ l, lcStep g tt te vs (e1 a) ρ = .ok (some (e2 (φ a))) ρ) → lcRun g tt te vs (l.map e1) acc ρ = .ok (acc ++ (l.map φ).map e2) ρ
  | [], acc, _ => by rw [List.map_nil, List.map_nil, List.map_nil, List.append_nil]; rfl
  | a :: l, acc, h => by
    rw [List.map_cons, lcRun_cons (h a (List.mem_cons_self ..)), lcRun_map φ l _ (fun b hb => h b (List.mem_cons_of_mem _ hb))]
    simp only [List.map_cons, List.append_assoc, List.cons_append, List.nil_append]
theorem lcRun_filter {α β : Type} {e1 : α → D} {e2 : β → D} (p : α → Bool) (φ : α → β) : ∀ (l : List α) (acc : List D), (∀ a ∈ l, lcStep g tt te vs (e1 a) ρ = .ok (if p a = true then some (e2 (φ a)) else none) ρ) → lcRun g tt te vs (l.map e1) acc ρ = .ok (acc ++ ((l.filter p).map φ).map e2) ρ
  | [], acc, _ => by rw [List.filter_nil, List.map_nil, List.map_nil, List.map_nil, List.append_nil]; rfl
  | a :: l, acc, h => by
    have h0 := h a (List.mem_cons_self ..)
    rw [List.map_cons]
    cases q : p a with
    | true =>
      rw [q, if_pos rfl] at h0
      rw [lcRun_cons h0, lcRun_filter p φ l _ (fun b hb => h b (List.mem_cons_of_mem _ hb)), List.filter_cons_of_pos q]
      simp only [List.map_cons, List.append_assoc, List.cons_append, List.nil_append]
    | false =>
      rw [q, if_neg (by decide)] at h0
      rw [lcRun_skip h0, lcRun_filter p φ l _ (fun b hb => h b (List.mem_cons_of_mem _ hb)), List.filter_cons_of_neg (by rw [q]; decide)]
/-- with a state that changes -/
theorem lcRun_inv (I : Nat → List D → Rho → Prop) : ∀ (ds : List D) (k : Nat) (acc : List D) (ρ : Rho), I k acc ρ → (∀ i d acc ρ, ds[i]? = some d → I (k + i) acc ρ → (∃ y ρ', lcStep g tt te vs d ρ = .ok (some y) ρ' ∧ I (k + i + 1) (acc ++ [y]) ρ') ∨ ∃ ρ', lcStep g tt te vs d ρ = .ok none ρ' ∧ I (k + i + 1) acc ρ') →
    ∃ acc' ρ', lcRun g tt te vs ds acc ρ = .ok acc' ρ' ∧ I (k + ds.length) acc' ρ'
  | [], k, acc, ρ, h, _ => ⟨acc, ρ, rfl, h⟩
  | d :: ds, k, acc, ρ, h, hs => by
    have h2 := hs 0 d acc ρ rfl h
    have rest : ∀ acc2 ρ4, I (k + 1) acc2 ρ4 → ∃ acc' ρ', lcRun g tt te vs ds acc2 ρ4 = .ok acc' ρ' ∧ I (k + (d :: ds).length) acc' ρ' := fun acc2 ρ4 h4 => by
      obtain ⟨a', r', e3, h3⟩ := lcRun_inv I ds (k + 1) acc2 ρ4 h4 (fun i d' acc3 ρ3 hd hi => by
        have := hs (i + 1) d' acc3 ρ3 (by simpa using hd) (by rw [show k + (i + 1) = k + 1 + i by omega]; exact hi)
        rw [show k + (i + 1) + 1 = k + 1 + i + 1 by omega] at this
        exact this)
      exact ⟨a', r', e3, by rw [List.length_cons, show k + (ds.length + 1) = k + 1 + ds.length by omega]; exact h3⟩
    rcases h2 with ⟨y, ρ', e, h4⟩ | ⟨ρ', e, h4⟩
    · rw [lcRun_cons e]
      exact rest _ _ h4
    · rw [lcRun_skip e]
      exact rest _ _ h4
end
end G


namespace G
open PySem PySem.Spec PyProof.Rows L2

section
variable {X : Cx} {E : EW} {pos : Pos}
def cutG {α : Type} (xs : List α) (lo hi : Option Int) : List α := (xs.drop (HT.sIx xs.length 0 lo)).take (HT.sIx xs.length xs.length hi - HT.sIx xs.length 0 lo)
theorem RpAll.cut {K : PySem.W.Frag} {F : Hp} {vs : List V} {ds : List D} (h : RpAll K F vs ds) (lo hi : Option Int) : RpAll K F (cutV vs lo hi) (cutG ds lo hi) := by
  have hl := h.length
  unfold cutV cutG
  rw [hl]
  exact (h.drop _).take _
abbrev XP := Rho → Res (Option Int)
def lPO (K : PySem.W.Frag) (E : EW) (t : XP) : TO := fun σ H Q => ∃ F ρ, Rel K F H ρ σ ∧ Pend K E t ρ σ F H fun o _ _ H' => Q o H'
theorem po_imp {e : Option Expr} {t t' : TO} (h : PO X e t) (k : ∀ σ H Q, t' σ H Q → t σ H Q) : PO X e t' := ⟨fun pins s σ H Q I q => h.run pins s σ H Q I (k σ H Q q)⟩
def xpNone : XP := fun ρ => .ok none ρ
def partk : D → Rho → Res (Option Int) := fun d ρ1 => match d with
  | .int i => .ok (some i) ρ1
  | _ => .bad
def xpSome (te : XV) : XP := fun ρ => (te ρ).bind partk
theorem xp_none : PO X none (lPO X.K E xpNone) := po_imp po_none fun σ H Q h => by
  obtain ⟨F, ρ, r, p⟩ := h
  exact p F H (Go.refl r)
theorem xp_some {e : Expr} {te : XV} (h : PE X e (lE X.K E te)) : PO X (some e) (lPO X.K E (xpSome te)) := po_imp (po_some h) fun σ H Q h => by
  obtain ⟨F, ρ, r, p⟩ := h
  refine ⟨F, ρ, r, (Pend.bind r p).mono fun x ρ1 F1 H1 g1 q v rv => ?_⟩
  unfold Pend partk at q
  cases x with
  | int i => cases rv; exact ⟨i, rfl, q F1 H1 (Go.refl g1.rel)⟩
  | non => exact q.elim
  | bl _ => exact q.elim
  | str _ => exact q.elim
  | ty _ => exact q.elim
  | tup _ => exact q.elim
  | lst _ => exact q.elim
  | fix _ => exact q.elim
  | dicK _ _ => exact q.elim
  | dicT _ _ => exact q.elim
  | dicN _ _ => exact q.elim
  | exn _ => exact q.elim
  | inst _ _ => exact q.elim
  | _ => exact q.elim
def dSlL (x : D) (lo hi : Option Int) : Option D := (dItL x).map fun ds => .lst (cutG ds lo hi)
def slk2 (f : D → Option Int → Option Int → Option D) (x : D) (lo : Option Int) : Option Int → Rho → Res D := fun hi => lift (f x lo) hi
def slk1 (f : D → Option Int → Option Int → Option D) (th : XP) (x : D) : Option Int → Rho → Res D := fun lo ρ => (th ρ).bind (slk2 f x lo)
def slk0 (f : D → Option Int → Option Int → Option D) (tl th : XP) : D → Rho → Res D := fun x ρ => (tl ρ).bind (slk1 f th x)
def xSl (f : D → Option Int → Option Int → Option D) (te : XV) (tl th : XP) : XV := fun ρ => (te ρ).bind (slk0 f tl th)
theorem xn_slice {e : Expr} {lo hi : Option Expr} {te : XV} {tl th : XP} {p2 : Pos} (he : PE X e (lE X.K E te)) (hl : PO X lo (lPO X.K E tl)) (hu : PO X hi (lPO X.K E th)) : PE X (.Subscript e (.Slice lo hi none p2) pos) (lN X.K E (xSl dSlL te tl th)) := pe_imp (pe_slice sl_list he hl hu) fun σ H Q h => by
  obtain ⟨F, ρ, r, p⟩ := h
  refine ⟨F, ρ, r, (Pend.bind r p).mono fun x ρ1 F1 H1 g1 q v rv => ⟨F1, ρ1, g1.rel, (Pend.bind g1.rel q).mono fun l ρ2 F2 H2 g2 q2 => ⟨F2, ρ2, g2.rel, (Pend.bind g2.rel q2).mono fun u ρ3 F3 H3 g3 q3 => ?_⟩⟩⟩
  obtain ⟨d, e, q4⟩ := q3.lift
  unfold dSlL at e
  cases q5 : dItL x with
  | none => rw [q5] at e; cases e
  | some ds =>
    rw [q5] at e
    cases e
    obtain ⟨a, xs, rfl, hs, rs⟩ := dItL_of q5 (rv.mono (g2.ex.trans g3.ex))
    have gg := (g1.trans r g2).trans r g3
    exact ⟨a, xs, rfl, g3.rel.ex.seq hs, fun p hp => (outN_of r gg q4).new g3.rel.ex hp (.lst (rs.cut l u))⟩
end
section
variable (ρ ρ1 : Rho) (i : Nat) (ta tb : XV) (tl th : XP)
theorem zeH (f : D → Option Int → Option Int → Option D) : xSl f ta tl th ρ = (ta ρ).bind (slk0 f tl th) := rfl
theorem zeI (f : D → Option Int → Option Int → Option D) (x : D) : slk0 f tl th x ρ = (tl ρ).bind (slk1 f th x) := rfl
theorem zeJ (f : D → Option Int → Option Int → Option D) (x : D) (lo : Option Int) : slk1 f th x lo ρ = (th ρ).bind (slk2 f x lo) := rfl
theorem zeK (f : D → Option Int → Option Int → Option D) (x : D) (lo hi : Option Int) : slk2 f x lo hi ρ = liftO (f x lo hi) ρ := rfl
theorem zeL : xpNone ρ = .ok none ρ := rfl
theorem zeM : xpSome ta ρ = (ta ρ).bind partk := rfl
theorem zeN (i : Int) : partk (.int i) ρ = .ok (some i) ρ := rfl
theorem zeO (ds : List D) (lo hi : Option Int) : dSlL (.lst ds) lo hi = some (.lst (cutG ds lo hi)) := rfl
end
end G


namespace G
open PySem PySem.Spec PyProof.Rows L2

section
variable {X : Cx} {cv : String → Value} {pos : Pos} {W : WX}
end
end G


namespace G
open PySem PySem.Spec PyProof.Rows L2

section
variable {P : Program} {w : World} {A : Around} {s : Shared} {E : Value → Shared → Prop}
def tupD (q : Addr × List Int) : PyData := .tuple (q.2.map PyData.int)
theorem readsAll_ints {h : Heap} : ∀ {k : List Int} {vs : List Value}, IntsAre vs k → ReadsAll h vs (k.map PyData.int) []
  | _, _, .nil => .nil
  | _, _, .cons n t r => by
    have := ReadsAll.cons (Reads.int (h := h) n t) (readsAll_ints r)
    simpa using this
theorem reads_tup {h : Heap} {q : Addr × List Int} (x : TS.TupInts h (.ref q.1) q.2) : Reads h (.ref q.1) (tupD q) [] := by
  obtain ⟨a, xs, e, ⟨o, ho, hc, n, hd⟩, i⟩ := x
  cases e
  exact .tuple ho hc hd (readsAll_ints i)
theorem refs_row {L : List (Addr × List Int)} : ∀ {vs : List Value}, (∀ v ∈ vs, ∃ q ∈ L, v = Value.ref q.1) → ∃ L1 : List (Addr × List Int), vs = L1.map (fun q => Value.ref q.1) ∧ ∀ q ∈ L1, q ∈ L
  | [], _ => ⟨[], rfl, fun q hq => by cases hq⟩
  | v :: vs, hv => by
    obtain ⟨q, hq, e⟩ := hv v (List.mem_cons_self ..)
    obtain ⟨L1, e1, hs⟩ := refs_row (vs := vs) fun u hu => hv u (List.mem_cons_of_mem _ hu)
    refine ⟨q :: L1, by rw [List.map_cons, e, e1], fun r hr => ?_⟩
    rcases List.mem_cons.mp hr with z | z
    · rw [z]; exact hq
    · exact hs r z
theorem each_refs : ∀ L1 : List (Addr × List Int), PySem.W.EachIs (fun (v : Value) (q : Addr × List Int) => v = .ref q.1) (L1.map fun q => Value.ref q.1) L1
  | [] => .nil
  | q :: L1 => .cons rfl (each_refs L1)
theorem refs_each {L1 : List (Addr × List Int)} {vs : List Value} (h : PySem.W.EachIs (fun (v : Value) (q : Addr × List Int) => v = .ref q.1) vs L1) : vs = L1.map fun q => Value.ref q.1 := by
  induction h with
  | nil => rfl
  | cons e _ ih => rw [List.map_cons, ← ih, e]
theorem each_readsT {h : Heap} {a : Addr} : ∀ {L1 : List (Addr × List Int)}, (∀ q ∈ L1, TS.TupInts h (.ref q.1) q.2) → PySem.W.EachIs (fun (v : Value) (q : Addr × List Int) => ∃ as, Reads h v (tupD q) as ∧ a ∉ as) (L1.map fun q => Value.ref q.1) L1
  | [], _ => .nil
  | q :: L1, hq => .cons ⟨[], reads_tup (hq q (List.mem_cons_self ..)), by simp⟩ (each_readsT fun r hr => hq r (List.mem_cons_of_mem _ hr))
theorem alike_tups {L1 : List (Addr × List Int)} : PySem.W.AllAlike (L1.map tupD) := by
  intro d hd e he
  obtain ⟨q, _, rfl⟩ := List.mem_map.mp hd
  obtain ⟨r, _, rfl⟩ := List.mem_map.mp he
  show PySem.W.alikeAll (q.2.map PyData.int) (r.2.map PyData.int) = true
  exact alike_map (α := Int) q.2 r.2
theorem nodup_of {α β : Type} {f : α → β} {l : List α} (h : (l.map f).Nodup) : l.Nodup := (List.pairwise_map.mp h).imp fun {a b} hne e => hne (congrArg f e)
theorem row_perm {L L1 : List (Addr × List Int)} (nd : (L.map (·.2)).Nodup) (one : ∀ q ∈ L, ∀ r ∈ L, q.1 = r.1 → q = r) (hs : ∀ q ∈ L1, q ∈ L) (pm : (L1.map (fun q => Value.ref q.1)).Perm (L.map fun q => Value.ref q.1)) : L1.Perm L := by
  have nL : L.Nodup := nodup_of nd
  have nref : (L.map fun q => Value.ref q.1).Nodup := by
    refine List.pairwise_map.mpr (List.Pairwise.imp_of_mem (fun {q r} hq hr hne e => ?_) nL)
    injection e with e
    exact hne (one q hq r hr e)
  have n1 : L1.Nodup := nodup_of (pm.nodup_iff.mpr nref)
  refine (List.perm_ext_iff_of_nodup n1 nL).mpr fun q => ⟨hs q, fun hq => ?_⟩
  have hm : Value.ref q.1 ∈ L1.map fun q => Value.ref q.1 := pm.mem_iff.mpr (List.mem_map.mpr ⟨q, hq, rfl⟩)
  obtain ⟨r, hr, e⟩ := List.mem_map.mp hm
  injection e with e
  rw [← one r (hs r hr) q hq e]
  exact hr
theorem depth_ints : ∀ k : List Int, PyData.depthAll (k.map PyData.int) ≤ 0 := fun k => dep_map (α := Int) k
end
section
variable {X : Cx}
end
def keyOf : D → Option (List Int)
  | .tup ds => tupInts ds
  | _ => none
def keysOf : List D → Option (List (List Int))
  | [] => some []
  | d :: ds => (keyOf d).bind fun k => (keysOf ds).map (k :: ·)
def tupK (k : List Int) : D := .tup (k.map D.int)
def leK (k l : List Int) : Bool := leE (⟨k⟩ : Tup Int) ⟨l⟩
def dd {α : Type} [DecidableEq α] : List α → List α
  | [] => []
  | a :: l => if a ∈ l then dd l else a :: dd l
theorem mem_dd {α : Type} [DecidableEq α] {b : α} : ∀ {l : List α}, b ∈ dd l ↔ b ∈ l
  | [] => Iff.rfl
  | a :: l => by
    unfold dd
    split
    · rename_i h
      rw [mem_dd, List.mem_cons]
      exact ⟨.inr, fun z => z.elim (fun e => e ▸ h) id⟩
    · rw [List.mem_cons, List.mem_cons, mem_dd]
theorem nodup_dd {α : Type} [DecidableEq α] : ∀ l : List α, (dd l).Nodup
  | [] => List.nodup_nil
  | a :: l => by
    unfold dd
    split
    · exact nodup_dd l
    · rename_i h
      exact List.nodup_cons.mpr ⟨fun z => h (mem_dd.mp z), nodup_dd l⟩
def sortK (ks : List (List Int)) : List (List Int) := isortB leK (dd ks)
theorem leK_total : PySem.W.TotalLe leK := ⟨fun a b c => (leE_total (α := Tup Int)).trans (Tup.mk a) (Tup.mk b) (Tup.mk c), fun a b => (leE_total (α := Tup Int)).total (Tup.mk a) (Tup.mk b)⟩
theorem leK_anti (a b : List Int) (h1 : leK a b = true) (h2 : leK b a = true) : a = b := by
  have := leE_anti' (⟨a⟩ : Tup Int) ⟨b⟩ (alike_map (α := Int) a b) h1 h2
  exact congrArg Tup.l this
/-- the rows behind the keys -/
theorem rows_of {K : PySem.W.Frag} {F : Hp} : ∀ {xs : List V} {ds : List D} {ks : List (List Int)}, RpAll K F xs ds → keysOf ds = some ks → ∃ L : List (Addr × List Int), xs = L.map (fun p => V.ref p.1) ∧ L.map (·.2) = ks ∧ ∀ p ∈ L, F p.1 = some (.tup (p.2.map V.int))
  | _, _, _, .nil, h => by cases h; exact ⟨[], rfl, rfl, fun p hp => by cases hp⟩
  | _, _, _, .cons (d := d) (ds := ds) r t, h => by
    unfold keysOf at h
    cases q1 : keyOf d with
    | none => rw [q1] at h; cases h
    | some k =>
      cases q2 : keysOf ds with
      | none => rw [q1, q2] at h; cases h
      | some ks =>
        rw [q1, q2] at h
        cases h
        obtain ⟨L, e1, e2, e3⟩ := rows_of t q2
        unfold keyOf at q1
        split at q1
        · cases r with
          | tup hf ra =>
            rename_i a vs
            rw [tupInts_of q1] at ra
            rw [ra.ints] at hf
            refine ⟨(a, k) :: L, by rw [e1]; rfl, by rw [List.map_cons, e2], fun p hp => ?_⟩
            rcases List.mem_cons.mp hp with rfl | hp
            · exact hf
            · exact e3 p hp
        · cases q1
theorem rows_back {K : PySem.W.Frag} {F : Hp} : ∀ {L : List (Addr × List Int)}, (∀ p ∈ L, F p.1 = some (.tup (p.2.map V.int))) → RpAll K F (L.map fun p => V.ref p.1) ((L.map (·.2)).map tupK)
  | [], _ => .nil
  | p :: L, h => .cons (.tup (h p (List.mem_cons_self ..)) (RpAll.of_ints p.2)) (rows_back fun q hq => h q (List.mem_cons_of_mem _ hq))
theorem sort_rows (L : List (Addr × List Int)) : (L.mergeSort (PySem.W.dataLe false tupD)).map (·.2) = isortB leK (L.map (·.2)) := by
  rw [← isortB_eq leK_total, List.map_mergeSort (f := fun q : Addr × List Int => q.2) (r := PySem.W.dataLe false tupD) (s := leK) (l := L) (fun a _ b _ => rfl)]
section
variable {X : Cx} {E : EW} {pos : Pos}
end
end G


namespace G
open PySem PySem.Spec PyProof.Rows L2

section
variable {P : Program} {w : World} {A : Around} {s : Shared} {E : Value → Shared → Prop}
/-- the empty set that set(..) starts from -/
def set0 (w : World) : Obj := { cls := .type "set", dict := none, data := .set #[] 0 (.fresh 0 0 (!w.params.followText "set-order")) }
set_option maxHeartbeats 3200000 in
theorem set_shell {l : Addr} {items : Array Value} (hl : s.heap.IsList l items) {R : Heap → Nat → Prop} {Q : Value → Shared → Prop}
    (hloop : codeAny (model P w) A.in1.in1 (.builtin "set.update.loop" ⟨[.ref s.heap.objs.size, .ref (s.heap.push (set0 w)).objs.size], []⟩) (fun r s' => r = .ok (.ret .none) ∧ ∃ h' tk, s' = { s with heap := h', toks := tk } ∧ R h' tk)
      { s with heap := (s.heap.push (set0 w)).push { cls := .type "list_iterator", data := .fields #[.ref l, .int 0 0] } })
    (h : ∀ h' tk, R h' tk → Q (.ref s.heap.objs.size) { s with heap := h', toks := tk }) :
    wpAny (model P w) A (call (.type "set") [.ref l]) Q E s := by
  obtain ⟨c, tl, hmro⟩ := F.called_set.mro
  have hmade := F.called_set.made
  have hsub := F.called_set.sub
  have h1 := F.called_set.notType
  have h2 := F.called_set.canCreate
  have hct := F.typeCall_set_1 (.ref l)
  refine wpAny_call (codeAny_of_tree ?_)
  show wpAny _ _ (callAny (.type "set") _) _ _ _
  refine wpAny_pure ⟨Code.quiet_builtin _ (by decide +kernel), codeAny_builtin F.entry_type_call ?_⟩
  rw [Around.under_plain (weight_type_call_type "set" [.ref l] []) rfl]
  repeat (any_goals (first | assumption | wp_step))
  refine codeAny_mono (code_set_led1 (.ref l) (E := E) (Q₁ := fun obj s₁ => obj = .ref s.heap.objs.size ∧ s₁ = { s with heap := s.heap.push (set0 w) }) ⟨rfl, rfl⟩) fun r s₁ hr => ?_
  cases r with
  | error e => exact hr
  | ok fl =>
    cases fl with
    | ret obj =>
      obtain ⟨rfl, rfl⟩ := hr
      have hS : (s.heap.push (set0 w)).get? s.heap.objs.size = some (set0 w) := Heap.get?_push_size _ rfl
      have hT : Shared.TypeIs { s with heap := s.heap.push (set0 w) } (.ref s.heap.objs.size) "set" := ⟨_, hS, rfl⟩
      have hli := F.called_set.init.lookup
      have hbi := F.called_set.init.bind (.ref s.heap.objs.size)
      repeat (any_goals (first | assumption | wp_step))
      refine codeAny_mono (codeAny_call_builtin (R := wants (fun r s₂ => r = .none ∧ ∃ h' tk, s₂ = { s with heap := h', toks := tk } ∧ R h' tk) E) F.called_set.init.plain F.entry_set_init (check_set_init_1 hT ?_)) fun r₂ s₂ hr₂ => ?_
      · obtain ⟨ol, hol, hcl, nl, hdl⟩ := hl
        obtain ⟨ocls, odict, odata, oslots⟩ := ol
        simp only at hcl hdl
        subst hcl; subst hdl
        have hol' : (s.heap.push (set0 w)).get? l = some { cls := .type "list", dict := odict, data := .seq items nl, slots := oslots } := Heap.get?_push_of_some _ hol
        have hsls := F.sub_list_set
        have hslf := F.sub_list_frozenset
        have hne : (Value.type "list" == Value.type "dict") = false := by decide
        have hl1 : (s.heap.push (set0 w)).IsList l items := ⟨_, hol', rfl, nl, rfl⟩
        unfold Builtin.«set.__init__» noKeywords Builtin.Frozenset.updateFrom
        generalize hPI : pyIter = PI
        wp_walk
        subst hPI
        refine wpAny_pyIter_list hl1 ?_
        refine wpAny_bind (wpAny_runValue ?_)
        refine codeAny_mono hloop fun r s' hr => ?_
        obtain ⟨rfl, h', tk, rfl, hR⟩ := hr
        exact wpAny_pure (wpAny_pure ⟨rfl, h', tk, rfl, hR⟩)
      · cases r₂ with
        | error e => exact hr₂
        | ok fl₂ =>
          cases fl₂ with
          | ret r =>
            obtain ⟨rfl, h', tk, rfl, hR⟩ := hr₂
            repeat (any_goals (first | assumption | wp_step))
            exact h _ _ hR
          | _ => exact hr₂.elim
    | _ => exact hr.elim
end
end G


namespace G
open PySem PySem.Spec PyProof.Rows L2

section
variable {P : Program} {w : World} {A : Around} {s : Shared} {E : Value → Shared → Prop}
/-- set(xs) of ints -/
theorem set_listI {l : Addr} {items : Array Value} (ns : List Int) {Q : Value → Shared → Prop} (hh : A.handled = none) (hl : s.heap.IsList l items) (hit : IntsAre items.toList ns) (hb : ns.length + 1 < scanBound)
    (h : ∀ (h' : Heap) (tk c : Nat), SetR w h' s.heap.objs.size (fun j => decide (j ∈ ns)) c → c ≤ ns.length → (∀ b o, s.heap.get? b = some o → h'.get? b = some o) → Q (.ref s.heap.objs.size) { s with heap := h', toks := tk }) :
    wpAny (model P w) A (call (.type "set") [.ref l]) Q E s := by
  have hisz : items.size = ns.length := by
    have q := IntsAre.length hit
    rw [Array.length_toList] at q
    exact q
  have hlS : l < s.heap.objs.size := by
    obtain ⟨ol, hol, _⟩ := hl
    exact Heap.lt_size hol
  have hz : (s.heap.push (set0 w)).objs.size = s.heap.objs.size + 1 := Heap.size_push ..
  have hS : (s.heap.push (set0 w)).get? s.heap.objs.size = some (set0 w) := Heap.get?_push_size _ rfl
  have hl1 : (s.heap.push (set0 w)).IsList l items := hl.push _
  have hh3 : A.in1.in1.in1.handled = none := by simp [hh]
  refine set_shell (R := fun h' tk => ∃ c, SetR w h' s.heap.objs.size (fun j => decide (j ∈ ns)) c ∧ c ≤ ns.length ∧ ∀ b o, s.heap.get? b = some o → h'.get? b = some o) hl ?_ fun h' tk ⟨c, k1, k2, k3⟩ => h h' tk c k1 k2 k3
  refine set_update_ints ((Walks.list hh3 _ l (by rw [hz]; exact Nat.ne_of_lt (Nat.lt_succ_of_lt hlS)) items).toS) s.heap.objs.size ?_ ns hisz hb (fun i v hv => ?_) (items.size - 0) 0 _ (by omega) (Nat.zero_le _) ⟨⟨_, Heap.get?_push_size _ rfl, rfl, rfl⟩, (hl1.push _)⟩ ⟨0, Nat.le_refl 0, setR_new_at (Heap.get?_push_of_some _ hS)⟩ fun s' c hm hc hS' => ?_
  · rw [hz]
    simp only [List.mem_cons, List.not_mem_nil, or_false, not_or]
    exact ⟨Nat.ne_of_lt (Nat.lt_succ_self _), Nat.ne_of_gt hlS⟩
  · have hi : i < ns.length := by rw [← hisz]; exact (Array.getElem?_eq_some_iff.mp hv).1
    obtain ⟨t, e⟩ := PyProof.Rows.IntsAre.int_at hit i v (by rw [Array.getElem?_toList]; exact hv)
    refine ⟨ns[i], t, List.getElem?_eq_getElem hi, ?_⟩
    rw [e, List.getD_eq_getElem?_getD, List.getElem?_eq_getElem hi] <;> rfl
  · obtain ⟨h', g2, d', tk', os'⟩ := s'
    have eg : g2 = s.gens := hm.gens
    have ed : d' = s.drawn := hm.drawn
    have eo : os' = s.os := hm.os
    subst eg; subst ed; subst eo
    refine ⟨rfl, h', tk', rfl, c, hS', by omega, fun b o e => ?_⟩
    have hb0 : b < s.heap.objs.size := Heap.lt_size e
    refine hm.heap b o ?_ (Heap.get?_push_of_some _ (Heap.get?_push_of_some _ e))
    rw [hz]
    simp only [List.mem_cons, List.not_mem_nil, or_false, not_or]
    exact ⟨Nat.ne_of_lt hb0, Nat.ne_of_lt (Nat.lt_succ_of_lt hb0)⟩
end
end G


namespace G
open PySem PySem.Spec PyProof.Rows L2

section
variable {X : Cx}
def rSetOfI (K : PySem.W.Frag) (w : World) : List V → Hp → VK → Prop := fun xs H Q => ∃ (l : Addr) (ns : List Int), xs = [V.ref l] ∧ SqL K H l (ns.map V.int) ∧ ns.length < 64 ∧
  ∀ a c, H a = none → c ≤ ns.length → Q (.ref a) (upd H a (SetO w a (fun j => decide (j ∈ ns)) c))
theorem cr_setOfI (hc : X.calm = true) : CallR X (.type "set") (rSetOfI X.K X.w) := by
  intro pins s σ H xs us Q I r h
  obtain ⟨l, ns, rfl, hl, hf, q⟩ := h
  rw [Vals.ref1 r]
  obtain ⟨its, rv, pl, hz⟩ := I.list hl
  have hn : H s.heap.objs.size = none := I.hok.fresh (Nat.le_refl _)
  refine set_listI (P := X.prog) (w := X.w) ns (I.ok.hd hc) pl.isList (by simpa using rv.ints) (by unfold scanBound; omega) fun h' tk c R k1 k => ?_
  exact ⟨.ref s.heap.objs.size, upd H s.heap.objs.size (SetO X.w s.heap.objs.size (fun j => decide (j ∈ ns)) c), I.laid (t' := tk) k (Nat.le_refl _) (setO_new R), rfl, q _ c hn k1⟩
end
def leI (a b : Int) : Bool := decide (a ≤ b)
def sortI (ns : List Int) : List Int := isortB leI (dd ns)
theorem leI_total : PySem.W.TotalLe leI := ⟨fun a b c h1 h2 => by
  unfold leI at *
  simp only [decide_eq_true_eq] at *
  omega, fun a b => by
  unfold leI
  simp only [decide_eq_true_eq]
  omega⟩
theorem leI_anti (a b : Int) (h1 : leI a b = true) (h2 : leI b a = true) : a = b := by
  unfold leI at *
  simp only [decide_eq_true_eq] at *
  omega
theorem sortI_unique {ns out : List Int} (h : out.Pairwise (· < ·)) (hm : ∀ k : Int, k ∈ out ↔ k ∈ ns) : out = sortI ns := by
  refine pw_unique leI_anti ?_ (h.imp fun {a b} hab => decide_eq_true (Int.le_of_lt hab)) (isortB_pw leI_total _)
  refine List.Perm.trans ?_ (isortB_perm _).symm
  refine (List.perm_ext_iff_of_nodup (h.imp fun {a b} hab e => by omega) (nodup_dd ns)).mpr fun k => ?_
  rw [hm, mem_dd]
def dSSI (x : D) : Option D := (dItL x).bind fun ds => (tupInts ds).bind fun ns => if ns.length < 64 then some (.lst ((sortI ns).map D.int)) else none
section
variable {X : Cx} {E : EW} {pos : Pos}
theorem xn_sortedSetI {e : Expr} {te : XV} {p p2 pos2 : Pos} (hc : X.calm = true) (hg : Gl X "sorted") (hm : X.mg "sorted" = none) (hg2 : Gl X "set") (hm2 : X.mg "set" = none) (he : PE X e (lE X.K E te))
    (s1 : starEach [e] X.env = (false, eval e X.env) :: starEach [] X.env := by rfl) (s2 : starEach [.Call (.Name "set" p2) [e] [] pos2] X.env = (false, eval (.Call (.Name "set" p2) [e] [] pos2) X.env) :: starEach [] X.env := by rfl)
    (b1 : (backTo pos2 (starEach [] X.env)).any (·.1) = false := by rfl) (b2 : (backTo pos (starEach [] X.env)).any (·.1) = false := by rfl) :
    PE X (.Call (.Name "sorted" p) [.Call (.Name "set" p2) [e] [] pos2] [] pos) (lN X.K E (xOp1 dSSI te)) := by
  refine pe_imp (pe_callB (cr_sortedSet hc) hg hm bt_sorted (pa_cons (pe_callTy (cr_setOfI hc) hg2 hm2 bt_set (pa_cons he pa_nil s1) (he := s1) (hpl := b1)) pa_nil s2) (he := s2) (hpl := b2)) fun σ H Q h => ?_
  obtain ⟨F, ρ, r, p⟩ := h
  refine ⟨F, ρ, r, (Pend.bind r p).mono fun x ρ1 F1 H1 g1 q v rv => ?_⟩
  obtain ⟨d, ed, q2⟩ := q.lift
  have o := outN_of r g1 q2
  unfold dSSI at ed
  cases q5 : dItL x with
  | none => rw [q5] at ed; cases ed
  | some ds =>
    rw [q5] at ed
    simp only [Option.bind_some] at ed
    cases q6 : tupInts ds with
    | none => rw [q6] at ed; cases ed
    | some ns =>
      rw [q6] at ed
      simp only [Option.bind_some] at ed
      split at ed
      · rename_i hz
        cases ed
        obtain ⟨l, xs, rfl, hs, rs⟩ := dItL_of q5 rv
        rw [tupInts_of q6] at rs
        rw [rs.ints] at hs
        have ex := g1.rel.ex
        refine ⟨l, ns, rfl, ex.seq hs, hz, fun a c ha hcn => ?_⟩
        have nea : ∀ b u, H1 b = some u → b ≠ a := fun b u h e => by subst e; rw [ha] at h; cases h
        refine ⟨a, _, c, rfl, upd_same, by omega, fun out b hp hmem hl hb => ?_⟩
        have hba : b ≠ a := fun e => by subst e; rw [upd_same] at hb; cases hb
        rw [upd_ne hba] at hb
        have keep : ∀ c' u, H1 c' = some u → upd (upd H1 a (SetO X.w a (fun j => decide (j ∈ ns)) c)) b (.lst (out.map V.int)) c' = some u := fun c' u hcu => by
          rw [upd_ne (ne_of_none hcu hb), upd_ne (nea c' u hcu)]
          exact hcu
        have eo := sortI_unique hp (ns := ns) fun k => by rw [hmem k, decide_eq_true_eq]
        subst eo
        exact o b (.lst ((sortI ns).map V.int)) F1 _ ⟨Same.refl F1, keep, fun c' u h => keep c' u (ex c' u h), fun _ _ _ _ h => h⟩ hb (ex.free hb) upd_same (.lst (RpAll.of_ints _))
      · cases ed
end
end G


namespace G
open PySem PySem.Spec PyProof.Rows L2

def flatD : D → Bool
  | .non => true
  | .bl _ => true
  | .int _ => true
  | .str _ => true
  | _ => false
def vOf : D → V
  | .bl b => .bl b
  | .int i => .int i
  | .str x => .str x
  | _ => .non
theorem vOf_is {K : PySem.W.Frag} {F : Hp} {v : V} {d : D} (r : Rp K F v d) (h : flatD d = true) : v = vOf d ∧ flatV v = true := by
  cases r with
  | non => exact ⟨rfl, rfl⟩
  | bl _ => exact ⟨rfl, rfl⟩
  | int _ => exact ⟨rfl, rfl⟩
  | str _ => exact ⟨rfl, rfl⟩
  | ty _ => cases h
  | tup _ _ => cases h
  | lst _ _ => cases h
  | fix _ _ => cases h
  | dicK _ _ _ => cases h
  | dicT _ _ _ => cases h
  | dicN _ _ _ _ => cases h
  | exn _ _ => cases h
  | inst _ _ _ _ => cases h
  | _ => cases h
theorem vOf_all {K : PySem.W.Frag} {F : Hp} : ∀ {vs : List V} {ds : List D}, RpAll K F vs ds → ds.all flatD = true → vs = ds.map vOf ∧ vs.all flatV = true
  | _, _, .nil, _ => ⟨rfl, rfl⟩
  | _, _, .cons a b, h => by
    rw [List.all_cons, Bool.and_eq_true] at h
    obtain ⟨h1, h2⟩ := vOf_is a h.1
    obtain ⟨k1, k2⟩ := vOf_all b h.2
    exact ⟨by rw [List.map_cons, ← h1, ← k1], by rw [List.all_cons, h2, k2]; rfl⟩
def dInT (x y : D) : Option D := (dItT y).bind fun ds => if flatD x = true ∧ ds.all flatD = true then some (.bl (inV (vOf x) (ds.map vOf))) else none
theorem imp_inT {K : PySem.W.Frag} : Imp2 K dInT (rIn K false) := fun F H v w x y d Q ex rx ry e o => by
  unfold dInT at e
  cases q : dItT y with
  | none => rw [q] at e; cases e
  | some ds =>
    rw [q] at e
    simp only [Option.bind_some] at e
    split at e
    · rename_i hf
      cases e
      cases ry with
      | tup hh ra =>
        cases q
        obtain ⟨e1, f1⟩ := vOf_is rx hf.1
        obtain ⟨e2, f2⟩ := vOf_all ra hf.2
        subst e1 e2
        exact ⟨_, _, rfl, .inr (SqT.of (ex _ _ hh)), f1, f2, o.here ex (.bl _)⟩
      | non => cases q
      | bl _ => cases q
      | int _ => cases q
      | str _ => cases q
      | ty _ => cases q
      | lst _ _ => cases q
      | fix _ _ => cases q
      | dicK _ _ _ => cases q
      | dicT _ _ _ => cases q
      | dicN _ _ _ _ => cases q
      | exn _ _ => cases q
      | inst _ _ _ _ => cases q
      | _ => cases q
    · cases e
def rInA (K : PySem.W.Frag) : R2 := fun x y H Q => rInD K x y H Q ∨ rIn K false x y H Q
theorem op_inA {X : Cx} (hu : X.A.units + 65 < cLine) : OpR X (compareOp .In) (rInA X.K) := by
  intro pins s σ H x y v u Q I rx ry h
  rcases h with h | h
  · exact op_inD hu pins s σ H x y v u Q I rx ry h
  · exact op_in_seq pins s σ H x y v u Q I rx ry h
section
end
theorem zeX (n : Int) : ∀ ns : List Int, inV (.int n) (ns.map V.int) = decide (n ∈ ns)
  | [] => rfl
  | m :: ns => by
    show (eqV (.int m) (.int n) || inV (.int n) (ns.map V.int)) = _
    rw [zeX n ns, show eqV (.int m) (.int n) = decide (m = n) from rfl]
    by_cases h : m = n
    · subst h; simp
    · have h2 : ¬ n = m := fun e => h e.symm
      simp [h, h2]
theorem zeY : ∀ ns : List Int, (ns.map D.int).all flatD = true
  | [] => rfl
  | _ :: ns => zeY ns
theorem zeZ : ∀ ns : List Int, (ns.map D.int).map vOf = ns.map V.int
  | [] => rfl
  | n :: ns => by rw [List.map_cons, List.map_cons, zeZ ns]; rfl
theorem zfa (n : Int) (ns : List Int) : dInT (.int n) (.tup (ns.map D.int)) = some (.bl (decide (n ∈ ns))) := by
  unfold dInT dItT
  simp only [Option.bind_some]
  rw [if_pos ⟨rfl, zeY ns⟩, zeZ]
  show some (D.bl (inV (.int n) (ns.map V.int))) = _
  rw [zeX]
end G


namespace G
open PySem PySem.Spec PyProof.Rows L2

section
variable {g : XG} {body : XS}
/-- the numbers of a range as a list -/
def rng (lo : Int) (n : Nat) : List Int := (List.range n).map fun i => lo + (i : Nat)
end
end G


namespace G
open PySem PySem.Spec PyProof.Rows L2

section
variable {g : XG} {tt : XT} {te : XV} {vs : List Nat} {ρ : Rho}
theorem lcMap {α β : Type} {e1 : α → D} (e2 : β → D) (φ : α → β) {l : List α} (h : ∀ a ∈ l, lcStep g tt te vs (e1 a) ρ = .ok (some (e2 (φ a))) ρ) : lcRun g tt te vs (l.map e1) [] ρ = .ok ((l.map φ).map e2) ρ := lcRun_map φ l [] h
theorem lcFilt {α β : Type} {e1 : α → D} (e2 : β → D) (p : α → Bool) (φ : α → β) {l : List α} (h : ∀ a ∈ l, lcStep g tt te vs (e1 a) ρ = .ok (if p a = true then some (e2 (φ a)) else none) ρ) : lcRun g tt te vs (l.map e1) [] ρ = .ok (((l.filter p).map φ).map e2) ρ := lcRun_filter p φ l [] h
variable {body : XS}
/-- a loop over things of one kind, each turn to its end; I tells the state ahead of each turn -/
theorem for_list {α : Type} {e : α → D} (I : Nat → Rho → Prop) {l : List α} {ρ : Rho} (h0 : I 0 ρ) (hs : ∀ (i : Nat) (a : α) (ρ : Rho), l[i]? = some a → I i ρ → ∃ ρ1, g (e a) ρ = some ρ1 ∧ ∃ ρ2, (body ρ1 = .nx ρ2 ∨ body ρ1 = .cnt ρ2) ∧ I (i + 1) ρ2) : ∃ ρ', forRun g body (l.map e) ρ = .nx ρ' ∧ I l.length ρ' := by
  have := forRun_inv (g := g) (body := body) I (l.map e) 0 ρ h0 (fun i d ρ hd hI => by
    rw [List.getElem?_map] at hd
    cases q : l[i]? with
    | none => rw [q] at hd; cases hd
    | some a =>
      rw [q] at hd
      cases hd
      rw [Nat.zero_add] at hI ⊢
      exact hs i a ρ q hI)
  rw [List.length_map, Nat.zero_add] at this
  exact this
end
abbrev cells (cs : List (Int × Int)) : D := .lst (cs.map cellP)
theorem sorted_cells (cs : List (Int × Int)) : dSorted [.lst (cs.map cellP)] = some (.lst ((sortE cs).map cellP)) := dSorted_enc (α := Int × Int) (by decide) cs
theorem eq_cells (l m : List (Int × Int)) : eqD (.lst (l.map cellP)) (.lst (m.map cellP)) = some (decide (l = m)) := eqD_enc (α := List (Int × Int)) (by decide) l m
theorem sz {α : Type} {f : α → D} {l : List α} (h : l.length ≤ 1000) : (l.map f).length ≤ sizeLine := by
  rw [List.length_map]
  exact Nat.le_trans h (by rw [sizeLine_eq]; decide)
theorem szn {n : Nat} (h : n ≤ 1000) : n ≤ sizeLine := Nat.le_trans h (by rw [sizeLine_eq]; decide)
def mn (i j : Int) : Int := if j < i then j else i
def mx (i j : Int) : Int := if j > i then j else i
def N4 : List (Int × Int) := [(-1, 0), (0, -1), (0, 1), (1, 0)]
def N6 : List (Int × Int) := [(-1, -1), (-1, 0), (0, -1), (0, 1), (1, 0), (1, 1)]
def N8 : List (Int × Int) := [(-1, -1), (-1, 0), (-1, 1), (0, -1), (0, 1), (1, -1), (1, 0), (1, 1)]
def near : Int → List (Int × Int)
  | 4 => N4
  | 6 => N6
  | _ => N8
theorem near_len (k : Int) : (near k).length ≤ 8 := by
  unfold near
  split <;> decide
def app (t : Q4) (p : Int × Int) : Int × Int := (t.a * p.1 + t.b * p.2, t.c * p.1 + t.d * p.2)
abbrev q4 (t : Q4) : D := .tup [.int t.a, .int t.b, .int t.c, .int t.d]
def T4 : List Q4 := [⟨-1, 0, 0, -1⟩, ⟨-1, 0, 0, 1⟩, ⟨0, -1, -1, 0⟩, ⟨0, -1, 1, 0⟩, ⟨0, 1, -1, 0⟩, ⟨0, 1, 1, 0⟩, ⟨1, 0, 0, -1⟩, ⟨1, 0, 0, 1⟩]
def T6 : List Q4 := [⟨-1, 0, -1, 1⟩, ⟨-1, 0, 0, -1⟩, ⟨-1, 1, -1, 0⟩, ⟨-1, 1, 0, 1⟩, ⟨0, -1, -1, 0⟩, ⟨0, -1, 1, -1⟩, ⟨0, 1, -1, 1⟩, ⟨0, 1, 1, 0⟩, ⟨1, -1, 0, -1⟩, ⟨1, -1, 1, 0⟩, ⟨1, 0, 0, 1⟩, ⟨1, 0, 1, -1⟩]
def turns : Int → List Q4
  | 6 => T6
  | _ => T4
/-- a picture turned -/
def turnP (t : Q4) (cs : List (Int × Int)) : List (Int × Int) := sortE (cs.map (app t))
def sh (d p : Int × Int) : Int × Int := (p.1 + d.1, p.2 + d.2)
theorem zfb {a b : List D} (h : a.length + b.length ≤ sizeLine) : dAdd (.lst a) (.lst b) = some (.lst (a ++ b)) := if_pos h
theorem zfc {a b : List D} (h : a.length + b.length ≤ sizeLine) : dAddL (.lst a) (.lst b) = some (.lst (a ++ b)) := if_pos h
theorem sz_1 : 1 ≤ sizeLine := szn (by decide)
theorem sz_2 : 2 ≤ sizeLine := szn (by decide)
theorem sz_3 : 3 ≤ sizeLine := szn (by decide)
theorem sz_4 : 4 ≤ sizeLine := szn (by decide)
theorem sz_0 : 0 ≤ sizeLine := szn (by decide)
theorem zfd : 0 < sizeLine := by rw [sizeLine_eq]; decide
theorem zfk (ds : List D) : dList [.lst ds] = some (.lst ds) := rfl
theorem zfl (ds : List D) : dList [.tup ds] = some (.lst ds) := rfl
theorem zfm (ds : List D) : dTuple [.lst ds] = some (.tup ds) := rfl
theorem zfv (i j : Int) : dMin2 [.int i, .int j] = some (.int (mn i j)) := rfl
theorem zfw (i j : Int) : dMax2 [.int i, .int j] = some (.int (mx i j)) := rfl
theorem nc_0 : ((0 : Nat) : Int) = 0 := rfl
theorem nc_1 : ((1 : Nat) : Int) = 1 := rfl
theorem nc_2 : ((2 : Nat) : Int) = 2 := rfl
theorem nc_3 : ((3 : Nat) : Int) = 3 := rfl
theorem nc_4 : ((4 : Nat) : Int) = 4 := rfl
theorem nc_5 : ((5 : Nat) : Int) = 5 := rfl
theorem nc_6 : ((6 : Nat) : Int) = 6 := rfl
theorem nc_7 : ((7 : Nat) : Int) = 7 := rfl
theorem nc_8 : ((8 : Nat) : Int) = 8 := rfl
theorem nc_9 : ((9 : Nat) : Int) = 9 := rfl
theorem zfx : ((10 : Nat) : Int) = 10 := rfl
theorem zfy : ((11 : Nat) : Int) = 11 := rfl
theorem zfz : ((12 : Nat) : Int) = 12 := rfl
theorem zfA : ((13 : Nat) : Int) = 13 := rfl
theorem zfB : ((14 : Nat) : Int) = 14 := rfl
theorem zfC : ((15 : Nat) : Int) = 15 := rfl
theorem zfD : ((16 : Nat) : Int) = 16 := rfl
theorem zfE : ((17 : Nat) : Int) = 17 := rfl
theorem zfF : ((18 : Nat) : Int) = 18 := rfl
theorem zfG : ((19 : Nat) : Int) = 19 := rfl
theorem zfH : ((20 : Nat) : Int) = 20 := rfl
end G


set_option maxHeartbeats 4000000
namespace G
open PySem PySem.Spec PyProof.Rows L2

noncomputable def pb_is_near : XS := (xRet (xOrV (xOp2 dEq (xVar 0) (xC (.int 8))) (xOrV (xOp2 dEq (xVar 1) (xC (.int 0))) (xOrV (xOp2 dEq (xVar 2) (xC (.int 0))) (xAndV (xOp2 dEq (xVar 0) (xC (.int 6))) (xOp2 dEq (xVar 1) (xVar 2)))))))
noncomputable def p_is_near : DF := runP [false, false, false] 3 false pb_is_near
noncomputable def pb_around_1 : XS := (xAppend 1 (xOpL dTup (xCons (xVar 2) (xCons (xVar 3) xNil))))
noncomputable def pb_around_2 : XS := (xFor (xItR2 (xOp1 dNeg (xC (.int 1))) (xC (.int 2))) (gSet 3) pb_around_1)
noncomputable def pb_around : XS := (xSeq (xSetO 1 (xOpL dLst xNil))
    (xSeq (xFor (xItR2 (xOp1 dNeg (xC (.int 1))) (xC (.int 2))) (gSet 2) pb_around_2)
    (xRet (xTake 1))))
noncomputable def p_around : DF := runP [] 4 true pb_around
noncomputable def pb_offsets : XS := (xSeq (xSet 1 (xLC (xIt (xCall p_around xNil)) (gsTup 2 (gsCons (gSet 2) (gsCons (gSet 3) gsNil))) (xTest (xCall p_is_near (xCons (xVar 0) (xCons (xVar 2) (xCons (xVar 3) xNil))))) (xOpL dTup (xCons (xVar 2) (xCons (xVar 3) xNil))) [2, 3]))
    (xRet (xLC (xIt (xVar 1)) (gSet 4) (xTest (xOp2 dNe (xVar 4) (xOpL dTup (xCons (xC (.int 0)) (xCons (xC (.int 0)) xNil))))) (xVar 4) [4])))
noncomputable def p_offsets : DF := runP [false] 5 true pb_offsets
section
variable {α : Type} [Enc α]
def minE (x : α) (xs : List α) : α := xs.foldl (fun a y => if leE a y = true then a else y) x
def leastE : List α → Option α
  | [] => none
  | x :: xs => some (minE x xs)
variable [EncS α]
end
/-- a picture moved to least numbers 0 -/
def laid (cs : List (Int × Int)) : List (Int × Int) := match leastE (cs.map (·.1)), leastE (cs.map (·.2)) with
  | some a, some b => cs.map (sh (0 - a, 0 - b))
  | _, _ => []
theorem off4 : p_offsets [.int 4] = .ok (cells N4) [] := by kernel_rfl
theorem off6 : p_offsets [.int 6] = .ok (cells N6) [] := by kernel_rfl
theorem off8 : p_offsets [.int 8] = .ok (cells N8) [] := by kernel_rfl
abbrev Kind (k : Int) : Prop := k = 4 ∨ k = 6 ∨ k = 8
theorem off_is (k : Int) (hk : Kind k) : p_offsets [.int k] = .ok (cells (near k)) [] := by
  rcases hk with rfl | rfl | rfl
  · exact off4
  · exact off6
  · exact off8
end G


set_option maxHeartbeats 4000000
namespace G
open PySem PySem.Spec PyProof.Rows L2

theorem cutG_from {α : Type} (l : List α) (n : Nat) : cutG l (some (n : Int)) none = l.drop n := by
  unfold cutG
  rw [HT.sIx_none, HT.sIx_nat]
  by_cases h : n ≤ l.length
  · rw [Nat.min_eq_left h, List.take_of_length_le (by rw [List.length_drop]; exact Nat.le_refl _)]
  · rw [Nat.min_eq_right (by omega), List.drop_of_length_le (by omega), List.drop_of_length_le (by omega), List.take_nil]
theorem zfK : (true == true) = true := rfl
theorem zfL : (false == false) = true := rfl
theorem zfM : (true == false) = false := rfl
theorem zfN : (false == true) = false := rfl
end G


set_option maxHeartbeats 4000000
namespace G
open PySem PySem.Spec PyProof.Rows L2

section
variable {K : PySem.W.Frag} {F H F1 H1 : Hp} {ρ ρ1 : Rho} {σ σ1 : L2.St}
theorem Go.setSlot {i : Nat} {s : Slot} {o : Option V} (h0 : i ≠ 0) (hs : ∀ d, s ≠ .own d) (hr : ∀ d, s ≠ .rd d) (r : Rel K F H ρ σ) (rv : SRel K F H s o) : Go K ρ σ F H (ρ.set i s) (σ.set i o) F H where
  rel := by
    refine ⟨r.ex, by rw [List.length_set, List.length_set]; exact r.len, fun j s' o' h1 h2 => ?_, fun j k d1 d2 p h1 h2 h3 h4 => ?_, fun j d1 p h1 h2 h3 => ?_⟩
    · rcases get_set h1 with ⟨e, rfl⟩ | ⟨hj, h1⟩ <;> rcases get_set h2 with ⟨e2, rfl⟩ | ⟨hj2, h2⟩
      · exact rv
      · exact absurd e hj2
      · exact absurd e2 hj
      · exact r.at' j s' o' h1 h2
    · rcases get_set h1 with ⟨_, q⟩ | ⟨hj, h1⟩
      · exact absurd q.symm (hs d1)
      · rcases get_set h2 with ⟨_, q⟩ | ⟨hk, h2⟩
        · exact absurd q.symm (hs d2)
        · rw [List.getElem?_set_ne hj] at h3
          rw [List.getElem?_set_ne hk] at h4
          exact r.dis j k d1 d2 p h1 h2 h3 h4
    · rcases get_set h1 with ⟨_, q⟩ | ⟨hj, h1⟩
      · exact absurd q.symm (hr d1)
      · rw [List.getElem?_set_ne hj] at h2
        exact r.rdis j d1 p h1 h2 (own_set_val hs h3)
  ex := Same.refl F
  keep := fun _ _ h1 h2 _ => ⟨h1, fun _ => h2⟩
  own := fun p h => .inl (own_set_val hs h)
  low := List.getElem?_set_ne h0
  lowO := fun d h => ⟨d, by rw [List.getElem?_set_ne h0]; exact h⟩
  rdb := fun j e h => by
    rcases get_set h with ⟨_, q⟩ | ⟨hj, h⟩
    · exact absurd q.symm (hr e)
    · exact ⟨h, List.getElem?_set_ne hj⟩
end
/-- what a class of the program that is raised must say -/
structure ExcT (K : PySem.W.Frag) (C : Addr) : Prop where
  ex : PySem.W.excIn K C [.type "ValueError", .type "Exception", .type "BaseException", .type "object"] "ValueError.__new__" = true
  kp : PySem.W.keepIn K (.ref C) = true
  sb : PySem.W.subIn K (.ref C) (.type "BaseException") = some true
  ty : PySem.W.typeIn K (.ref C) = some (.type "type")
section
variable {X : Cx} {E : EW} {fr : Bool} {cv : String → Value} {W : WX}
def xRaise (c : String) : XS := fun ρ => .exc c ρ
theorem xs_raise {x m : Str} {c : String} {C : Addr} {j : Nat} {p p2 pos pos2 : Pos} (hc : X.calm = true) (tk : Takes X W) (T : ExcT X.K C) (gC : X.mg x = some (.ref C)) (hg : Gl X x) (hcv : cv c = .ref C) (hdb : (x == ("__debug__" : Str)) = false := by decide) :
    PS X (.Raise (some (.Call (.Name x p) [.Constant (.str m) j p2] [] pos)) none pos2) (lS X.K (EWx cv W) fr (xRaise c)) :=
  ps_imp (ps_raise hc tk (pmk_own PySem.F.excBase_ValueError T.ex gC T.kp (raises_own T.sb T.ty) hg hdb)) fun C σ H h => by
    obtain ⟨F, ρ, r, p⟩ := h
    unfold PendS xRaise at p
    rw [← hcv]
    exact p σ F H (Go.refl r)
end
/-- what a class of the program that is named must say -/
structure ClsT (K : PySem.W.Frag) (C : Addr) : Prop where
  cl : PySem.W.isClsIn K C = true
  ty : PySem.W.typeIn K (.ref C) = some (.type "type")
  sf : PySem.W.subIn K (.ref C) (.ref C) = some true
section
variable {K : PySem.W.Frag} {D C : Addr} {b b' : Bool}
end
def spA (K : PySem.W.Frag) (g : DF) : Sp := fun vs H Q E => ∀ cv : String → Value, spP K cv false [false] g vs H Q E
theorem fnOk_A {P : Program} {w : World} {K : PySem.W.Frag} {mg : Str → Option Value} {base : Heap} {CX : CXT} {k : Nat} {f : Addr} {fd : FuncData} {ps : List Str} {cv : String → Value} {g : DF} (h : FnOk P w K mg base CX k f fd ps (spP K cv false [false] g)) : FnOk P w K mg base CX k f fd ps (spA K g) :=
  ⟨fun vs H Q E z => h.len vs H Q E (z cv), fun A outer s H args us vs Q E r e b rv z => h.run A outer s H args us vs Q E r e b rv (z cv)⟩
theorem law_spA {K : PySem.W.Frag} {g : DF} {H : Hp} {a : Addr} {ns : List Int} {E : XK} (hS : SqL K H a (ns.map V.int)) (h : g [.fix (ns.map D.int)] = .ok (.bl true) []) : spA K g [.ref a] H (fun v _ => v = .bl true) E := fun _ => law_sp hS h
section
variable {X : Cx} {E : EW} {pos : Pos}
end
section
variable (ρ : Rho) (i : Nat)
theorem zfO (c : String) : xRaise c ρ = .exc c ρ := rfl
end
end G


set_option maxHeartbeats 4000000
namespace G
open PySem PySem.Spec PyProof.Rows L2

section
variable {P : Program} {w : World} {A : Around} {s : Shared} {E : Value → Shared → Prop}
end
section
variable {X : Cx} {E : EW} {pos : Pos}
end
section
variable {X : Cx} {E : EW} {pos : Pos}
theorem dd_le {α : Type} [DecidableEq α] : ∀ l : List α, (dd l).length ≤ l.length
  | [] => Nat.le_refl _
  | a :: l => by
    have := dd_le l
    unfold dd
    split <;> simp only [List.length_cons] <;> omega
theorem rg_all {K : PySem.W.Frag} {F : Hp} (a b : Int) : RpAll K F (rgV a b) (rangeD a (b - a).toNat) := by
  have : rgV a b = ((List.range (b - a).toNat).map fun i => a + ((i : Nat) : Int)).map V.int := by unfold rgV; rw [List.map_map]; rfl
  rw [this, show rangeD a (b - a).toNat = ((List.range (b - a).toNat).map fun i => a + ((i : Nat) : Int)).map D.int by unfold rangeD; rw [List.map_map]; rfl]
  exact RpAll.of_ints _
end
end G


set_option maxHeartbeats 4000000
namespace G
open PySem PySem.Spec PyProof.Rows L2

def rNotInA (K : PySem.W.Frag) : R2 := fun x y H Q => rNotInD K x y H Q ∨ rIn K true x y H Q
theorem op_notInA {X : Cx} (hu : X.A.units + 65 < cLine) : OpR X (compareOp .NotIn) (rNotInA X.K) := (op_notInD hu).or op_notIn_seq
end G


set_option maxHeartbeats 4000000
namespace G
open PySem PySem.Spec PyProof.Rows L2

def kOf : D → Option Key
  | .int i => some (.inl i)
  | .str x => some (.inr x)
  | _ => none
def kTs : List D → Option (List Key)
  | [] => some []
  | d :: ds => (kOf d).bind fun k => (kTs ds).map (k :: ·)
def kTof : D → Option (List Key)
  | .tup ds => kTs ds
  | _ => none
def dKey : Key → D
  | .inl i => .int i
  | .inr x => .str x
def lk {κ : Type} [DecidableEq κ] (es : List (κ × D)) (k : κ) : Option D := (es.find? fun e => decide (e.1 = k)).map (·.2)
def pt {κ : Type} [DecidableEq κ] (es : List (κ × D)) (k : κ) (d : D) : List (κ × D) :=
  if (es.any fun e => decide (e.1 = k)) = true then es.map (fun e => if e.1 = k then (e.1, d) else e) else es ++ [(k, d)]
section
variable {K : PySem.W.Frag} {F F' H H' : Hp}
theorem kOf_rp {v : V} {x : D} {k : Key} (r : Rp K F v x) (h : kOf x = some k) : v = kV k := by
  cases r <;> first | (cases h; rfl) | cases h
theorem kTs_rp : ∀ {vs : List V} {ds : List D} {ks : List Key}, RpAll K F vs ds → kTs ds = some ks → vs = ks.map kV
  | _, _, ks, .nil, h => by cases h; rfl
  | _, _, ks, .cons (d := d) (ds := ds) a b, h => by
    unfold kTs at h
    cases q : kOf d with
    | none => rw [q] at h; cases h
    | some k =>
      rw [q] at h
      simp only [Option.bind_some] at h
      cases q2 : kTs ds with
      | none => rw [q2] at h; cases h
      | some ks' =>
        rw [q2] at h
        cases h
        rw [kOf_rp a q, kTs_rp b q2]
        rfl
theorem kTof_rp {v : V} {x : D} {k : List Key} (r : Rp K F v x) (h : kTof x = some k) : ∃ b, v = .ref b ∧ F b = some (.tup (k.map kV)) := by
  cases r <;> first | (cases h; done) | skip
  rename_i a xs ds hf ra
  have := kTs_rp ra h
  subst this
  exact ⟨_, rfl, hf⟩
/-- entries that stand for entries -/
inductive RpE {κ : Type} (K : PySem.W.Frag) (F : Hp) : List (κ × V) → List (κ × D) → Prop
  | nil : RpE K F [] []
  | cons {k : κ} {v : V} {d : D} {kvs : List (κ × V)} {es : List (κ × D)} : Rp K F v d → RpE K F kvs es → RpE K F ((k, v) :: kvs) ((k, d) :: es)
theorem RpE.of {κ : Type} : ∀ {kvs : List (κ × V)} {es : List (κ × D)}, kvs.map (·.1) = es.map (·.1) → RpAll K F (kvs.map (·.2)) (es.map (·.2)) → RpE K F kvs es
  | [], [], _, _ => .nil
  | [], _ :: _, h, _ => by cases h
  | _ :: _, [], h, _ => by cases h
  | (k, v) :: kvs, (k', d) :: es, h, r => by
    cases r with
    | cons r1 r2 =>
      rw [List.map_cons, List.map_cons] at h
      obtain ⟨e1, e2⟩ := List.cons.inj h
      have e1' : k = k' := e1
      subst e1'
      exact .cons r1 (RpE.of e2 r2)
theorem RpE.keys {κ : Type} {kvs : List (κ × V)} {es : List (κ × D)} (h : RpE K F kvs es) : kvs.map (·.1) = es.map (·.1) := by
  induction h with
  | nil => rfl
  | cons _ _ ih => rw [List.map_cons, List.map_cons, ih]
theorem RpE.vals {κ : Type} {kvs : List (κ × V)} {es : List (κ × D)} (h : RpE K F kvs es) : RpAll K F (kvs.map (·.2)) (es.map (·.2)) := by
  induction h with
  | nil => exact .nil
  | cons r _ ih => exact .cons r ih
theorem RpE.len {κ : Type} {kvs : List (κ × V)} {es : List (κ × D)} (h : RpE K F kvs es) : kvs.length = es.length := by
  have := congrArg List.length h.keys
  rwa [List.length_map, List.length_map] at this
theorem RpE.append {κ : Type} {kvs kvs' : List (κ × V)} {es es' : List (κ × D)} (h : RpE K F kvs es) (h' : RpE K F kvs' es') : RpE K F (kvs ++ kvs') (es ++ es') := by
  induction h with
  | nil => exact h'
  | cons r _ ih => exact .cons r ih
def RO (K : PySem.W.Frag) (F : Hp) : Option V → Option D → Prop
  | some v, some d => Rp K F v d
  | none, none => True
  | _, _ => False
section
variable {κ : Type} [DecidableEq κ]
theorem RpE.lk {kvs : List (κ × V)} {es : List (κ × D)} (h : RpE K F kvs es) (k : κ) : RO K F (valV kvs k) (G.lk es k) := by
  induction h with
  | nil => exact True.intro
  | @cons j v d kvs es r _ ih =>
    by_cases e : j = k
    · rw [valV_pos (p := (j, v)) e]
      unfold G.lk
      rw [List.find?_cons_of_pos (by simpa using e)]
      exact r
    · rw [valV_neg (p := (j, v)) e]
      unfold G.lk
      rw [List.find?_cons_of_neg (by simpa using e)]
      exact ih
theorem RpE.any {kvs : List (κ × V)} {es : List (κ × D)} (h : RpE K F kvs es) (k : κ) : (kvs.any fun e => decide (e.1 = k)) = es.any fun e => decide (e.1 = k) := by
  induction h with
  | nil => rfl
  | cons r _ ih => rw [List.any_cons, List.any_cons, ih]
theorem RpE.repl {kvs : List (κ × V)} {es : List (κ × D)} (h : RpE K F kvs es) (k : κ) {v : V} {d : D} (r : Rp K F v d) : RpE K F (kvs.map fun kv => if kv.1 = k then (kv.1, v) else kv) (es.map fun e => if e.1 = k then (e.1, d) else e) := by
  induction h with
  | nil => exact .nil
  | @cons j v0 d0 kvs es r0 _ ih =>
    rw [List.map_cons, List.map_cons]
    by_cases e : j = k
    · rw [if_pos e, if_pos e]; exact .cons r ih
    · rw [if_neg e, if_neg e]; exact .cons r0 ih
theorem RpE.pt {kvs : List (κ × V)} {es : List (κ × D)} (h : RpE K F kvs es) (k : κ) {v : V} {d : D} (r : Rp K F v d) : RpE K F (putK kvs k v) (G.pt es k d) := by
  unfold putK G.pt
  rw [h.any k]
  split
  · exact h.repl k r
  · exact h.append (.cons r .nil)
end
theorem RpE.mono {κ : Type} {kvs : List (κ × V)} {es : List (κ × D)} (e : Same F F') (h : RpE K F kvs es) : RpE K F' kvs es := by
  induction h with
  | nil => exact .nil
  | cons r _ ih => exact .cons (r.mono e) ih
def isDic : D → Bool
  | .dicT _ _ => true
  | .dicK _ _ => true
  | _ => false
def dGetO (x k : D) : Option (Option D) := match x with
  | .dicT _ es => (kTof k).map (lk es)
  | .dicK _ es => (kOf k).map (lk es)
  | _ => none
theorem rd_frz {z : Bool} {o : Obj} {a : Addr} {u : HO} (h : H a = some (frzIf z o u)) : Rd H a u := by
  cases z
  · exact .inl h
  · exact .inr ⟨o, h⟩
theorem dic_ra {v : V} {x : D} (e : Same F H) (r : Ra K F H v x) (h : isDic x = true) : ∃ a, v = .ref a ∧ IsD H a ∧
    ((∃ z kvs es, x = .dicT z es ∧ Rd H a (.dT kvs) ∧ RpE K F kvs es) ∨ ∃ z kvs es, x = .dicK z es ∧ Rd H a (.dK kvs) ∧ RpE K F kvs es) := by
  cases r with
  | val rp _ =>
    cases rp with
    | dicK hf hk hr =>
      have := rd_frz (e _ _ hf)
      exact ⟨_, rfl, .inl ⟨_, this⟩, .inr ⟨_, _, _, rfl, this, RpE.of hk hr⟩⟩
    | dicT hf hk hr =>
      have := rd_frz (e _ _ hf)
      exact ⟨_, rfl, .inr ⟨_, this⟩, .inl ⟨_, _, _, rfl, this, RpE.of hk hr⟩⟩
    | non => cases h
    | bl _ => cases h
    | int _ => cases h
    | str _ => cases h
    | ty _ => cases h
    | tup _ _ => cases h
    | lst _ _ => cases h
    | fix _ _ => cases h
    | dicN _ _ _ _ => cases h
    | exn _ _ => cases h
    | inst _ _ _ _ => cases h
    | _ => cases h
  | own h1 h2 ro =>
    cases ro with
    | lst _ => cases h
    | dicK hk hr =>
      have := rd_frz h2
      exact ⟨_, rfl, .inl ⟨_, this⟩, .inr ⟨_, _, _, rfl, this, RpE.of hk hr⟩⟩
    | dicT hk hr =>
      have := rd_frz h2
      exact ⟨_, rfl, .inr ⟨_, this⟩, .inl ⟨_, _, _, rfl, this, RpE.of hk hr⟩⟩
    | dicN _ _ _ => cases h
    | ins _ _ _ => cases h
    | _ => cases h
theorem dget_ra {a : Addr} {w : V} {x k : D} {r : Option D} (e : Same F H) (rx : Ra K F H (.ref a) x) (rw' : Rp K F w k) (h : dGetO x k = some r) : ∃ o, DGet H a w o ∧ RO K F o r := by
  unfold dGetO at h
  split at h
  · rename_i z es
    cases q : kTof k with
    | none => rw [q] at h; cases h
    | some ks =>
      rw [q] at h
      cases h
      obtain ⟨b, rfl, hb⟩ := kTof_rp rw' q
      obtain ⟨a', ea, _, hh⟩ := dic_ra e rx rfl
      cases ea
      rcases hh with ⟨z', kvs, es', ex, hr, he⟩ | ⟨z', kvs, es', ex, hr, he⟩
      · cases ex
        exact ⟨_, .inr ⟨kvs, ks, b, hr, rfl, e _ _ hb, rfl⟩, he.lk ks⟩
      · cases ex
  · rename_i z es
    cases q : kOf k with
    | none => rw [q] at h; cases h
    | some ks =>
      rw [q] at h
      cases h
      have := kOf_rp rw' q
      subst this
      obtain ⟨a', ea, _, hh⟩ := dic_ra e rx rfl
      cases ea
      rcases hh with ⟨z', kvs, es', ex, hr, he⟩ | ⟨z', kvs, es', ex, hr, he⟩
      · cases ex
      · cases ex
        exact ⟨_, .inl ⟨kvs, ks, hr, rfl, rfl⟩, he.lk ks⟩
  · cases h
theorem ra_of_rp {v : V} {x : D} (r : Rp K F v x) (h : isDic x = true) : Ra K F H v x := .val r (by cases x <;> first | rfl | cases h)
theorem RO.getD {o : Option V} {r : Option D} {v : V} {d : D} (h : RO K F o r) (rv : Rp K F v d) : Rp K F (o.getD v) (r.getD d) := by
  cases o <;> cases r <;> first | exact h | exact rv | exact h.elim
end
section
variable {X : Cx} {E : EW} {fr : Bool} {pos : Pos}
theorem xn_dnewT : PE X (.Dict [] [] pos) (lN X.K E (xC (.dicT false []))) := pe_imp pe_dnewT fun σ H Q h => by
  obtain ⟨F, ρ, r, p⟩ := h
  unfold Pend xC at p
  intro q hq
  exact p F _ ((Gr.newO r.ex hq).go r) q (.dT []) (r.ex.free hq) upd_same (Ro.dicT (z := false) (o := { cls := .none, data := .fields #[] }) rfl .nil) (not_own_new r hq) (.inr hq)
/-- with the dict that can be read at slot i -/
def withD {α : Type} (i : Nat) (f : D → Rho → Res α) : Rho → Res α := fun ρ => match rdD i ρ with
  | some x => if isDic x = true then f x ρ else .bad
  | none => .bad
theorem Pend.withD {α : Type} {K : PySem.W.Frag} {σ : L2.St} {F H : Hp} {ρ : Rho} {i : Nat} {f : D → Rho → Res α} {Q : α → Rho → Hp → Hp → Prop} (h : Pend K E (withD i f) ρ σ F H Q) : ∃ x, rdD i ρ = some x ∧ isDic x = true ∧ Pend K E (f x) ρ σ F H Q := by
  unfold Pend G.withD at h
  cases e : rdD i ρ with
  | none => simp only [e] at h
  | some x =>
    simp only [e] at h
    by_cases hd : isDic x = true
    · simp only [if_pos hd] at h
      exact ⟨x, rfl, hd, h⟩
    · simp only [if_neg hd] at h
def getk3 (k x : D) : D → Rho → Res D := fun y ρ => match dGetO y k with
  | some r => .ok (r.getD x) ρ
  | none => .bad
def getk2 (i : Nat) (k : D) : D → Rho → Res D := fun x => withD i (getk3 k x)
def getk1 (i : Nat) (tx : XV) : D → Rho → Res D := fun k ρ => (tx ρ).bind (getk2 i k)
def getk0 (i : Nat) (tk tx : XV) : D → Rho → Res D := fun _ ρ => (tk ρ).bind (getk1 i tx)
def xDGet2 (i : Nat) (tk tx : XV) : XV := withD i (getk0 i tk tx)
theorem Pend.getk3 {K : PySem.W.Frag} {σ : L2.St} {F H : Hp} {ρ : Rho} {k x y : D} {Q : D → Rho → Hp → Hp → Prop} (h : Pend K E (getk3 k x y) ρ σ F H Q) : ∃ r, dGetO y k = some r ∧ ∀ F' H', Go K ρ σ F H ρ σ F' H' → Q (r.getD x) ρ F' H' := by
  unfold Pend G.getk3 at h
  cases e : dGetO y k with
  | none => simp only [e] at h
  | some r => simp only [e] at h; exact ⟨r, rfl, h⟩
theorem xe_dget2 {i : Nat} {x : Str} {k e : Expr} {tk te : XV} {xp apos cpos : Pos} (hu : X.A.units + 1 < cLine) (ho : PE X (.Name x xp) (tVar i)) (hk : PE X k (lE X.K E tk)) (he : PE X e (lE X.K E te)) (m : M2 X (.Name x xp) "get" apos k e cpos := by exact ⟨rfl, rfl, rfl, rfl⟩) :
    PE X (.Call (.Attribute (.Name x xp) "get" apos) [k, e] [] cpos) (lE X.K E (xDGet2 i tk te)) := pe_imp (pe_dget2 hu ho hk he m) fun σ H Q h => by
  obtain ⟨F, ρ, r, p⟩ := h
  obtain ⟨y0, e0, hd, p⟩ := Pend.withD p
  obtain ⟨v0, s0, ra0⟩ := r.rd e0
  obtain ⟨a, ev, isd, _⟩ := dic_ra r.ex ra0 hd
  subst ev
  refine ⟨.ref a, s0, a, rfl, isd, F, ρ, r, (Pend.bind r p).mono fun kd ρ1 F1 H1 g1 q w rw1 => ?_⟩
  refine ⟨F1, ρ1, g1.rel, (Pend.bind g1.rel q).mono fun xd ρ2 F2 H2 g2 q v rv => ?_⟩
  obtain ⟨y, e2, hd2, q⟩ := Pend.withD q
  obtain ⟨rr, e3, q⟩ := Pend.getk3 q
  obtain ⟨v2, s2, ra2⟩ := g2.rel.rd e2
  rw [s0] at s2
  cases s2
  obtain ⟨o, dg, ro⟩ := dget_ra g2.rel.ex ra2 (rw1.mono g2.ex) e3
  exact ⟨o, dg, q F2 H2 (Go.refl g2.rel) _ (ro.getD rv)⟩
def getv2 (y k : D) : D → Rho → Res D := fun x ρ => getk3 k x y ρ
def getv1 (tx : XV) (y : D) : D → Rho → Res D := fun k ρ => (tx ρ).bind (getv2 y k)
def getv0 (tk tx : XV) : D → Rho → Res D := fun y ρ => if isDic y = true then (tk ρ).bind (getv1 tx y) else .bad
def xDGetV (te tk tx : XV) : XV := fun ρ => (te ρ).bind (getv0 tk tx)
theorem xe_dgetV {d k e : Expr} {td tk te : XV} {apos cpos : Pos} (hu : X.A.units + 1 < cLine) (ho : PE X d (lE X.K E td)) (hk : PE X k (lE X.K E tk)) (he : PE X e (lE X.K E te)) (m : M2 X d "get" apos k e cpos := by exact ⟨rfl, rfl, rfl, rfl⟩) :
    PE X (.Call (.Attribute d "get" apos) [k, e] [] cpos) (lE X.K E (xDGetV td tk te)) := pe_imp (pe_dget2 hu ho hk he m) fun σ H Q h => by
  obtain ⟨F, ρ, r, p⟩ := h
  refine ⟨F, ρ, r, (Pend.bind r p).mono fun y ρ0 F0 H0 g0 q v ry => ?_⟩
  by_cases hd : isDic y = true
  · have q : Pend X.K E (fun ρ => (tk ρ).bind (getv1 te y)) ρ0 σ F0 H0 (fun d x F' H' => ∀ (v : V), Rp X.K F' v d → Q v H') := by
      unfold Pend getv0 at q
      simp only [if_pos hd] at q
      exact q
    obtain ⟨a, ev, isd, _⟩ := dic_ra g0.rel.ex (ra_of_rp (H := H0) ry hd) hd
    subst ev
    refine ⟨a, rfl, isd, F0, ρ0, g0.rel, (Pend.bind g0.rel q).mono fun kd ρ1 F1 H1 g1 q w rw1 => ?_⟩
    refine ⟨F1, ρ1, g1.rel, (Pend.bind g1.rel q).mono fun xd ρ2 F2 H2 g2 q v2 rv => ?_⟩
    obtain ⟨rr, e3, q⟩ := Pend.getk3 q
    obtain ⟨o, dg, ro⟩ := dget_ra g2.rel.ex (ra_of_rp (H := H2) ((ry.mono g1.ex).mono g2.ex) hd) (rw1.mono g2.ex) e3
    exact ⟨o, dg, q F2 H2 (Go.refl g2.rel) _ (ro.getD rv)⟩
  · unfold Pend getv0 at q
    simp only [if_neg hd] at q
def dIxD (x k : D) : Option D := (dGetO x k).bind id
def ixv1 (y : D) : D → Rho → Res D := fun k ρ => lift (dIxD y) k ρ
def ixv0 (tk : XV) : D → Rho → Res D := fun y ρ => if isDic y = true then (tk ρ).bind (ixv1 y) else .bad
def xDIxV (te tk : XV) : XV := fun ρ => (te ρ).bind (ixv0 tk)
theorem xe_dixV {d k : Expr} {td tk : XV} (hu : X.A.units + 1 < cLine) (ho : PE X d (lE X.K E td)) (hk : PE X k (lE X.K E tk)) (hs : NoSl k := by intro _ _; rfl) :
    PE X (.Subscript d k pos) (lE X.K E (xDIxV td tk)) := pe_imp (pe_dget hu ho hk hs) fun σ H Q h => by
  obtain ⟨F, ρ, r, p⟩ := h
  refine ⟨F, ρ, r, (Pend.bind r p).mono fun y ρ0 F0 H0 g0 q v ry => ?_⟩
  by_cases hd : isDic y = true
  · have q : Pend X.K E (fun ρ => (tk ρ).bind (ixv1 y)) ρ0 σ F0 H0 (fun d x F' H' => ∀ (v : V), Rp X.K F' v d → Q v H') := by
      unfold Pend ixv0 at q
      simp only [if_pos hd] at q
      exact q
    obtain ⟨a, ev, isd, _⟩ := dic_ra g0.rel.ex (ra_of_rp (H := H0) ry hd) hd
    subst ev
    refine ⟨F0, ρ0, g0.rel, (Pend.bind g0.rel q).mono fun kd ρ1 F1 H1 g1 q w rw1 => ?_⟩
    obtain ⟨x, ex, q⟩ := Pend.lift (f := dIxD y) (x := kd) q
    unfold dIxD at ex
    cases e3 : dGetO y kd with
    | none => rw [e3] at ex; cases ex
    | some rr =>
      rw [e3] at ex
      simp only [Option.bind_some, id] at ex
      obtain ⟨o, dg, ro⟩ := dget_ra g1.rel.ex (ra_of_rp (H := H1) (ry.mono g1.ex) hd) rw1 e3
      subst ex
      cases o with
      | none => exact ro.elim
      | some v2 => exact ⟨a, v2, rfl, dg, q F1 H1 (Go.refl g1.rel) v2 ro⟩
  · unfold Pend ixv0 at q
    simp only [if_neg hd] at q
def dixk2 (i : Nat) (k : D) : D → Rho → Res D := fun y ρ => lift (dIxD y) k ρ
def dixk1 (i : Nat) : D → Rho → Res D := fun k => withD i (dixk2 i k)
def dixk0 (i : Nat) (tk : XV) : D → Rho → Res D := fun _ ρ => (tk ρ).bind (dixk1 i)
def xDIx (i : Nat) (tk : XV) : XV := withD i (dixk0 i tk)
theorem xe_dix {i : Nat} {x : Str} {k : Expr} {tk : XV} {xp : Pos} (hu : X.A.units + 1 < cLine) (ho : PE X (.Name x xp) (tVar i)) (hk : PE X k (lE X.K E tk)) (hs : NoSl k := by intro _ _; rfl) :
    PE X (.Subscript (.Name x xp) k pos) (lE X.K E (xDIx i tk)) := pe_imp (pe_dget hu ho hk hs) fun σ H Q h => by
  obtain ⟨F, ρ, r, p⟩ := h
  obtain ⟨y0, e0, hd, p⟩ := Pend.withD p
  obtain ⟨v0, s0, ra0⟩ := r.rd e0
  obtain ⟨a, ev, isd, _⟩ := dic_ra r.ex ra0 hd
  subst ev
  refine ⟨.ref a, s0, F, ρ, r, (Pend.bind r p).mono fun kd ρ1 F1 H1 g1 q w rw1 => ?_⟩
  obtain ⟨y, e2, hd2, q⟩ := Pend.withD q
  obtain ⟨v2, s2, ra2⟩ := g1.rel.rd e2
  rw [s0] at s2
  cases s2
  obtain ⟨xx, ex, q⟩ := Pend.lift (f := dIxD y) (x := kd) q
  unfold dIxD at ex
  cases e3 : dGetO y kd with
  | none => rw [e3] at ex; cases ex
  | some rr =>
    rw [e3] at ex
    simp only [Option.bind_some, id] at ex
    obtain ⟨o, dg, ro⟩ := dget_ra g1.rel.ex ra2 rw1 e3
    subst ex
    cases o with
    | none => exact ro.elim
    | some v3 => exact ⟨a, v3, rfl, dg, q F1 H1 (Go.refl g1.rel) v3 ro⟩
def inX (x y : D) : Option Bool := match y with
  | .dicT z es => (dGetO (.dicT z es) x).map (·.isSome)
  | .dicK z es => (dGetO (.dicK z es) x).map (·.isSome)
  | .tup ds => match dInT x (.tup ds) with
    | some (.bl b) => some b
    | _ => none
  | y => inD x y
def dInX (x y : D) : Option D := (inX x y).map .bl
def dNotInX (x y : D) : Option D := (inX x y).map fun b => .bl (!b)
def rInX (K : PySem.W.Frag) : R2 := fun x y H Q => rInA K x y H Q ∨ ∃ a o, y = .ref a ∧ DGet H a x o ∧ Q (.bl o.isSome) H
def rNotInX (K : PySem.W.Frag) : R2 := fun x y H Q => rNotInA K x y H Q ∨ ∃ a o, y = .ref a ∧ DGet H a x o ∧ Q (.bl (!o.isSome)) H
theorem op_inX (hu : X.A.units + 65 < cLine) : OpR X (compareOp .In) (rInX X.K) := by
  intro pins s σ H x y v u Q I rx ry h
  rcases h with h | ⟨a, o, rfl, g, q⟩
  · exact op_inA hu pins s σ H x y v u Q I rx ry h
  · cases (show u = Value.ref a from ry)
    exact d_in (by omega) I g rx fun s3 I3 => ⟨.bl o.isSome, H, I3, rfl, q⟩
theorem op_notInX (hu : X.A.units + 65 < cLine) : OpR X (compareOp .NotIn) (rNotInX X.K) := by
  intro pins s σ H x y v u Q I rx ry h
  rcases h with h | ⟨a, o, rfl, g, q⟩
  · exact op_notInA hu pins s σ H x y v u Q I rx ry h
  · cases (show u = Value.ref a from ry)
    exact d_notIn (by omega) I g rx fun s3 I3 => ⟨.bl (!o.isSome), H, I3, rfl, q⟩
theorem RO.some_eq {K : PySem.W.Frag} {F : Hp} {o : Option V} {r : Option D} (h : RO K F o r) : o.isSome = r.isSome := by
  cases o <;> cases r <;> first | rfl | exact h.elim
theorem inX_cases {K : PySem.W.Frag} {F H : Hp} {v w : V} {x y : D} {b : Bool} (ex : Same F H) (rv : Rp K F v x) (rw' : Rp K F w y) (h : inX x y = some b) :
    (∃ a o, w = .ref a ∧ DGet H a v o ∧ b = o.isSome) ∨ (∃ ds, y = .tup ds ∧ dInT x (.tup ds) = some (.bl b)) ∨ inD x y = some b := by
  have dic : ∀ {y : D}, isDic y = true → Rp K F w y → (dGetO y x).map (·.isSome) = some b → ∃ a o, w = .ref a ∧ DGet H a v o ∧ b = o.isSome := fun {y} hd ry h => by
    cases q : dGetO y x with
    | none => rw [q] at h; cases h
    | some r =>
      rw [q] at h
      cases h
      obtain ⟨a, rfl, _, _⟩ := dic_ra ex (ra_of_rp (H := H) ry hd) hd
      obtain ⟨o, dg, ro⟩ := dget_ra ex (ra_of_rp (H := H) ry hd) rv q
      exact ⟨a, o, rfl, dg, ro.some_eq.symm⟩
  unfold inX at h
  split at h
  · exact .inl (dic rfl rw' h)
  · exact .inl (dic rfl rw' h)
  · split at h
    · rename_i e
      cases h
      exact .inr (.inl ⟨_, rfl, e⟩)
    · cases h
  · exact .inr (.inr h)
theorem imp_inX {K : PySem.W.Frag} : Imp2 K dInX (rInX K) := fun F H v w x y d Q ex rv rw' e o => by
  unfold dInX at e
  cases q : inX x y with
  | none => rw [q] at e; cases e
  | some b =>
    rw [q] at e
    cases e
    rcases inX_cases ex rv rw' q with ⟨a, ov, rfl, g, eb⟩ | ⟨ds, rfl, h⟩ | h
    · exact .inr ⟨a, ov, rfl, g, by rw [← eb]; exact o.here ex (.bl _)⟩
    · exact .inl (.inr (imp_inT F H v w x (.tup ds) (.bl b) Q ex rv rw' h o))
    · exact .inl (.inl (imp_in F H v w x y (.bl b) Q ex rv rw' (by unfold dIn; rw [h]; rfl) o))
theorem imp_notInX {K : PySem.W.Frag} : Imp2 K dNotInX (rNotInX K) := fun F H v w x y d Q ex rv rw' e o => by
  unfold dNotInX at e
  cases q : inX x y with
  | none => rw [q] at e; cases e
  | some b =>
    rw [q] at e
    cases e
    rcases inX_cases ex rv rw' q with ⟨a, ov, rfl, g, eb⟩ | ⟨ds, rfl, h⟩ | h
    · exact .inr ⟨a, ov, rfl, g, by rw [← eb]; exact o.here ex (.bl _)⟩
    · refine .inl (.inr ?_)
      unfold dInT dItT at h
      simp only [Option.bind_some] at h
      split at h
      · rename_i hf
        injection h with h
        injection h with h
        cases rw' with
        | tup hh ra =>
          obtain ⟨e1, f1⟩ := vOf_is rv hf.1
          obtain ⟨e2, f2⟩ := vOf_all ra hf.2
          subst e1 e2
          exact ⟨_, _, rfl, .inr (SqT.of (ex _ _ hh)), f1, f2, by rw [if_pos rfl, h]; exact o.here ex (.bl _)⟩
      · cases h
    · exact .inl (.inl (imp_notIn F H v w x y (.bl (!b)) Q ex rv rw' (by unfold dNotIn; rw [h]; rfl) o))
def dPutD (y k d : D) : Option D := match y with
  | .dicT false es => (kTof k).bind fun ks => if es.length < sizeLine then some (.dicT false (pt es ks d)) else none
  | .dicK false es => (kOf k).bind fun ks => if es.length < sizeLine then some (.dicK false (pt es ks d)) else none
  | _ => none
def putO (i : Nat) (ρ : Rho) (o : Option D) : Fl := match o with
  | some y => .nx (ρ.set i (.own y))
  | none => .bad
def putS (i : Nat) (k d : D) (ρ : Rho) (o : Option D) : Fl := match o with
  | some y => putO i ρ (dPutD y k d)
  | none => .bad
def putk2 (i : Nat) (d : D) : D → Rho → Fl := fun k ρ => putS i k d ρ (ownD i ρ)
def putk1 (i : Nat) (tk : XV) : D → Rho → Fl := fun d ρ => match ownD i ρ with
  | some y => if isDic y = true then (tk ρ).fl (putk2 i d) else .bad
  | none => .bad
def xDPut (i : Nat) (tk tv : XV) : XS := fun ρ => (tv ρ).fl (putk1 i tk)
theorem xs_dput {i : Nat} {x : Str} {k e : Expr} {tk te : XV} {xp sp : Pos} (hu : X.A.units + 1 < cLine) (ho : PE X (.Name x xp) (tVar i)) (hk : PE X k (lE X.K E tk)) (he : PE X e (lE X.K E te))
    (hs : swapsWith e (some (.Subscript (.Name x xp) k sp)) pos.line X.env = pure false := by rfl) : PS X (.Assign [.Subscript (.Name x xp) k sp] e pos) (lS X.K E fr (xDPut i tk te)) := ps_imp (ps_dput hu ho hk he hs) fun C σ H h => by
  obtain ⟨F, ρ, r, p⟩ := h
  refine ⟨F, ρ, r, (PendS.fl r p).mono fun d ρ1 F1 H1 g1 q v rv => ?_⟩
  unfold putk1 at q
  cases e0 : ownD i ρ1 with
  | none => unfold PendS at q; simp only [e0] at q
  | some y0 =>
    by_cases hd : isDic y0 = true
    · have q : PendS X.K E fr (fun ρ => (tk ρ).fl (putk2 i d)) ρ1 σ F1 H1 C := by
        unfold PendS at q ⊢
        simp only [e0, if_pos hd] at q
        exact q
      obtain ⟨a, o0, s0, f0, h0, ro0⟩ := g1.rel.own (ownD_of e0)
      refine ⟨.ref a, s0, F1, ρ1, g1.rel, (PendS.fl g1.rel q).mono fun kd ρ2 F2 H2 g2 q w rw1 => ?_⟩
      unfold PendS putk2 at q
      cases e1 : ownD i ρ2 with
      | none => simp only [e1, putS] at q
      | some y =>
        simp only [e1, putS] at q
        cases e2 : dPutD y kd d with
        | none => simp only [e2, putO] at q
        | some y' =>
          simp only [e2, putO] at q
          obtain ⟨b, o1, s1, f1, h1, ro1⟩ := g2.rel.own (ownD_of e1)
          rw [s0] at s1
          cases s1
          have rv2 := rv.mono g2.ex
          unfold dPutD at e2
          split at e2
          · rename_i es
            cases q1 : kTof kd with
            | none => rw [q1] at e2; cases e2
            | some ks =>
              rw [q1] at e2
              simp only [Option.bind_some] at e2
              split at e2
              · rename_i hz
                cases e2
                obtain ⟨b2, rfl, hb⟩ := kTof_rp rw1 q1
                cases ro1 with
                | @dicT _ _ kvs _ hk2 hr2 =>
                  have re := RpE.of hk2 hr2
                  have rp := re.pt ks rv2
                  refine ⟨a, _, rfl, DPut.t h1 (g2.rel.ex _ _ hb) (by rw [re.len]; exact hz), q σ F2 _ (Go.mut g2.rel (ownD_of e1) s0 f1 h1 (Ro.dicT (z := false) (o := { cls := .none, data := .fields #[] }) rp.keys rp.vals))⟩
              · cases e2
          · rename_i es
            cases q1 : kOf kd with
            | none => rw [q1] at e2; cases e2
            | some ks =>
              rw [q1] at e2
              simp only [Option.bind_some] at e2
              split at e2
              · rename_i hz
                cases e2
                have := kOf_rp rw1 q1
                subst this
                cases ro1 with
                | @dicK _ _ kvs _ hk2 hr2 =>
                  have re := RpE.of hk2 hr2
                  have rp := re.pt ks rv2
                  refine ⟨a, _, rfl, DPut.k h1 (by rw [re.len]; exact hz), q σ F2 _ (Go.mut g2.rel (ownD_of e1) s0 f1 h1 (Ro.dicK (z := false) (o := { cls := .none, data := .fields #[] }) rp.keys rp.vals))⟩
              · cases e2
          · cases e2
    · unfold PendS at q
      simp only [e0, if_neg hd] at q
end
end G


set_option maxHeartbeats 4000000
namespace G
open PySem PySem.Spec PyProof.Rows L2

def dKeysL : D → Option D
  | .dicT _ es => some (.lst (es.map fun e => .tup (e.1.map dKey)))
  | .dicK false es => some (.lst (es.map fun e => dKey e.1))
  | _ => none
theorem rp_key {K : PySem.W.Frag} {F : Hp} (k : Key) : Rp K F (kV k) (dKey k) := by
  cases k
  · exact .int _
  · exact .str _
theorem rp_keys {K : PySem.W.Frag} {F : Hp} : ∀ ks : List Key, RpAll K F (ks.map kV) (ks.map dKey)
  | [] => .nil
  | k :: ks => .cons (rp_key k) (rp_keys ks)
/-- the tuples that are keys become known -/
theorem keys_known {K : PySem.W.Frag} {F H : Hp} {kvs : List (List Key × V)} {es : List (List Key × D)} {bs : List Addr} (ex : Same F H) (hk : kvs.map (·.1) = es.map (·.1)) (ik : IsKeys H kvs bs) :
    ∃ F', Same F F' ∧ Same F' H ∧ (∀ a o, NTup o → H a = some o → F a = none → F' a = none) ∧ RpAll K F' (bs.map V.ref) (es.map fun e => .tup (e.1.map dKey)) := by
  induction ik generalizing es with
  | nil =>
    cases es with
    | nil => exact ⟨F, Same.refl F, ex, fun _ _ _ _ h => h, .nil⟩
    | cons _ _ => cases hk
  | @cons p b kvs bs hb _ ih =>
    cases es with
    | nil => cases hk
    | cons e es =>
      rw [List.map_cons, List.map_cons] at hk
      obtain ⟨e1, e2⟩ := List.cons.inj hk
      obtain ⟨F', f1, f2, f3, f4⟩ := ih e2
      have s1 : Same F' (upd F' b (.tup (p.1.map kV))) := fun c u h => by
        by_cases hc : c = b
        · subst hc
          rw [upd_same]
          have := f2 c u h
          rw [hb] at this
          exact this
        · rw [upd_ne hc]; exact h
      refine ⟨upd F' b (.tup (p.1.map kV)), f1.trans s1, fun c u h => ?_, fun c u n h1 h2 => ?_, ?_⟩
      · by_cases hc : c = b
        · subst hc; rw [upd_same] at h; rw [hb]; exact h
        · rw [upd_ne hc] at h; exact f2 c u h
      · by_cases hc : c = b
        · subst hc
          rw [hb] at h1
          cases h1
          exact absurd rfl (n _)
        · rw [upd_ne hc]; exact f3 c u n h1 h2
      · refine .cons ?_ (f4.mono s1)
        have e1' : p.1 = e.1 := e1
        show Rp K _ (V.ref b) (.tup (e.1.map dKey))
        rw [← e1']
        exact .tup upd_same (rp_keys p.1)
def rListDA (K : PySem.W.Frag) : List V → Hp → VK → Prop := fun xs H Q => (∃ d kvs, xs = [V.ref d] ∧ Rd H d (.dT kvs) ∧ ∀ p bs, H p = none → IsKeys H kvs bs → Q (.ref p) (upd H p (.lst (bs.map V.ref)))) ∨ rListD xs H Q
theorem cr_listDA {X : Cx} (hc : X.calm = true) : CallR X (.type "list") (rListDA X.K) := (call_list_dT hc).or (call_list_dK hc)
theorem ra_frz {K : PySem.W.Frag} {F H : Hp} {a : Addr} {es : List (Key × D)} (e : Same F H) (r : Ra K F H (.ref a) (.dicK false es)) : ∃ kvs, H a = some (.dK kvs) ∧ RpE K F kvs es := by
  cases r with
  | val rp _ => cases rp with | dicK hf hk hr => exact ⟨_, e _ _ hf, RpE.of hk hr⟩
  | own h1 h2 ro => cases ro with | dicK hk hr => exact ⟨_, h2, RpE.of hk hr⟩
section
variable {X : Cx} {E : EW} {fr : Bool} {pos : Pos}
theorem keysL_of {K : PySem.W.Frag} {F H : Hp} {σ : L2.St} {ρ0 ρ : Rho} {F0 H0 : Hp} {x d : D} {v : V} {Q : VK} (r0 : Rel K F0 H0 ρ0 σ) (g0 : Go K ρ0 σ F0 H0 ρ σ F H) (ra : Ra K F H v x) (hd : isDic x = true) (e : dKeysL x = some d)
    (q : ∀ F' H', Go K ρ σ F H ρ σ F' H' → ∀ p o, F' p = none → H' p = some o → Ro K F' p o d → ¬ Own ρ σ p → (Own ρ0 σ p ∨ H0 p = none) → Q (.ref p) H') : rListDA K [v] H Q := by
  have ex := g0.rel.ex
  obtain ⟨a, rfl, _, hh⟩ := dic_ra ex ra hd
  have o := outN_of r0 g0 q
  unfold dKeysL at e
  split at e
  · rename_i z es
    cases e
    rcases hh with ⟨z', kvs, es', exx, hr, he⟩ | ⟨z', kvs, es', exx, hr, he⟩
    · cases exx
      refine .inl ⟨a, kvs, rfl, hr, fun p bs hp ik => ?_⟩
      obtain ⟨F', f1, f2, f3, f4⟩ := keys_known (K := K) ex he.keys ik
      have f2' : Same F' (upd H p (.lst (bs.map V.ref))) := fun c u h => by rw [upd_ne (ne_of_none (f2 c u h) hp)]; exact f2 c u h
      exact o p (.lst (bs.map V.ref)) F' _ ⟨f1, fun c u h => by rw [upd_ne (ne_of_none h hp)]; exact h, f2', f3⟩ hp (f2.free hp) upd_same (.lst f4)
    · cases exx
  · rename_i es
    cases e
    obtain ⟨kvs, hk, he⟩ := ra_frz ex ra
    refine .inr ⟨a, kvs, rfl, hk, fun p hp => o.new ex hp (.lst ?_)⟩
    have : kvs.map (fun kv => kV kv.1) = (kvs.map (·.1)).map kV := by rw [List.map_map]; rfl
    rw [this, he.keys, List.map_map, show es.map (fun e => dKey e.1) = (es.map (·.1)).map dKey by rw [List.map_map]; rfl, ← List.map_map]
    exact rp_keys _
  · cases e
def keysv : D → Rho → Res D := fun y ρ => if isDic y = true then lift dKeysL y ρ else .bad
def xKeysV (te : XV) : XV := fun ρ => (te ρ).bind keysv
theorem xn_listDV {e : Expr} {te : XV} {p : Pos} (hc : X.calm = true) (hg : Gl X "list") (hm : X.mg "list" = none) (ho : PE X e (lE X.K E te))
    (s1 : starEach [e] X.env = (false, eval e X.env) :: starEach [] X.env := by rfl) (b2 : (backTo pos (starEach [] X.env)).any (·.1) = false := by rfl) :
    PE X (.Call (.Name "list" p) [e] [] pos) (lN X.K E (xKeysV te)) := pe_imp (pe_callTy (cr_listDA hc) hg hm bt_list (pa_cons ho pa_nil s1) (he := s1) (hpl := b2)) fun σ H Q h => by
  obtain ⟨F, ρ, r, p⟩ := h
  refine ⟨F, ρ, r, (Pend.bind r p).mono fun y ρ1 F1 H1 g1 q v rv => ?_⟩
  by_cases hd : isDic y = true
  · have q : Pend X.K E (fun ρ => lift dKeysL y ρ) ρ1 σ F1 H1 (fun d ρ' F' H' => ∀ p o, F' p = none → H' p = some o → Ro X.K F' p o d → ¬ Own ρ' σ p → (Own ρ σ p ∨ H p = none) → Q (.ref p) H') := by
      unfold Pend keysv at q
      simp only [if_pos hd] at q
      exact q
    obtain ⟨d, ed, q⟩ := Pend.lift (f := dKeysL) (x := y) q
    exact keysL_of r g1 (ra_of_rp (H := H1) rv hd) hd ed q
  · unfold Pend keysv at q
    simp only [if_neg hd] at q
end
end G


set_option maxHeartbeats 4000000
namespace G
open PySem PySem.Spec PyProof.Rows L2

theorem hu1 {k : Nat} {A : Around} (r : Room k A) : A.units + 1 < cLine := by have := r.un; omega
section
variable {κ α : Type} [DecidableEq κ]
def lkA (l : List (κ × α)) (k : κ) : Option α := (l.find? fun e => decide (e.1 = k)).map (·.2)
def ptA (l : List (κ × α)) (k : κ) (v : α) : List (κ × α) :=
  if (l.any fun e => decide (e.1 = k)) = true then l.map (fun e => if e.1 = k then (e.1, v) else e) else l ++ [(k, v)]
theorem lkA_nil (k : κ) : lkA ([] : List (κ × α)) k = none := rfl
theorem lkA_cons (j : κ) (v : α) (l : List (κ × α)) (k : κ) : lkA ((j, v) :: l) k = if j = k then some v else lkA l k := by
  unfold lkA
  by_cases e : j = k
  · rw [List.find?_cons_of_pos (by simpa using e), if_pos e]; rfl
  · rw [List.find?_cons_of_neg (by simpa using e), if_neg e]
theorem lkA_any (l : List (κ × α)) (k : κ) : (l.any fun e => decide (e.1 = k)) = (lkA l k).isSome := by
  induction l with
  | nil => rfl
  | cons p l ih =>
    obtain ⟨j, v⟩ := p
    rw [List.any_cons, lkA_cons, ih]
    by_cases e : j = k
    · simp [e]
    · simp [e]
theorem lkA_app (l m : List (κ × α)) (k : κ) : lkA (l ++ m) k = (lkA l k).or (lkA m k) := by
  induction l with
  | nil => simp [lkA_nil]
  | cons p l ih =>
    obtain ⟨j, v⟩ := p
    rw [List.cons_append, lkA_cons, lkA_cons, ih]
    by_cases e : j = k
    · rw [if_pos e, if_pos e]; rfl
    · rw [if_neg e, if_neg e]
theorem lkA_repl (l : List (κ × α)) (k : κ) (v : α) (j : κ) : lkA (l.map fun e => if e.1 = k then (e.1, v) else e) j = if j = k then (lkA l k).map (fun _ => v) else lkA l j := by
  induction l with
  | nil => by_cases e : j = k <;> simp [lkA_nil, e]
  | cons p l ih =>
    obtain ⟨i, u⟩ := p
    rw [List.map_cons]
    by_cases e : i = k
    · subst e
      rw [if_pos rfl, lkA_cons, lkA_cons, lkA_cons, ih]
      by_cases e2 : j = i
      · subst e2; simp
      · rw [if_neg (fun z => e2 z.symm), if_neg e2, if_neg e2, if_neg (fun z => e2 z.symm)]
    · rw [if_neg e, lkA_cons, lkA_cons, lkA_cons, ih]
      by_cases e2 : i = j
      · subst e2
        rw [if_pos rfl, if_neg e, if_pos rfl]
      · rw [if_neg e2, if_neg e2, if_neg e]
theorem lkA_pt (l : List (κ × α)) (k : κ) (v : α) (j : κ) : lkA (ptA l k v) j = if j = k then some v else lkA l j := by
  unfold ptA
  rw [lkA_any]
  cases h : lkA l k with
  | some u =>
    rw [if_pos (show (some u).isSome = true from rfl), lkA_repl, h]
    rfl
  | none =>
    rw [if_neg (show ¬ (none : Option α).isSome = true from fun z => nomatch z), lkA_app, lkA_cons, lkA_nil]
    by_cases e : j = k
    · subst e
      simp [h]
    · rw [if_neg e, if_neg (fun z => e z.symm)]
      cases lkA l j <;> rfl
theorem ptA_len (l : List (κ × α)) (k : κ) (v : α) : (ptA l k v).length ≤ l.length + 1 := by
  unfold ptA
  split
  · rw [List.length_map]; omega
  · rw [List.length_append]; exact Nat.le_refl _
theorem ptA_keys (l : List (κ × α)) (k : κ) (v : α) (j : κ) : j ∈ (ptA l k v).map (·.1) ↔ j = k ∨ j ∈ l.map (·.1) := by
  have key : ∀ (m : List (κ × α)), j ∈ m.map (·.1) ↔ (lkA m j).isSome = true := fun m => by
    rw [← lkA_any, List.any_eq_true]
    simp only [List.mem_map, decide_eq_true_eq]
  rw [key, key, lkA_pt]
  by_cases e : j = k
  · simp [e]
  · simp [e]
theorem mem_keys (m : List (κ × α)) (j : κ) : j ∈ m.map (·.1) ↔ (lkA m j).isSome = true := by
  rw [← lkA_any, List.any_eq_true]
  simp only [List.mem_map, decide_eq_true_eq]
theorem ptA_nodup (l : List (κ × α)) (k : κ) (v : α) (h : (l.map (·.1)).Nodup) : ((ptA l k v).map (·.1)).Nodup := by
  unfold ptA
  split
  · have : (l.map fun e => if e.1 = k then (e.1, v) else e).map (·.1) = l.map (·.1) := by
      rw [List.map_map]
      refine List.map_congr_left fun e _ => ?_
      show (if e.1 = k then (e.1, v) else e).1 = e.1
      split <;> rfl
    rw [this]; exact h
  · rename_i hn
    rw [List.map_append]
    refine List.nodup_append.mpr ⟨h, by simp, fun x hx y hy e => ?_⟩
    have hy' : y = k := by simpa using hy
    subst hy' e
    rw [lkA_any] at hn
    exact hn ((mem_keys l x).mp hx)
end
def ck (p : Int × Int) : List Key := [.inl p.1, .inl p.2]
theorem ck_inj {p q : Int × Int} : ck p = ck q ↔ p = q := by
  constructor
  · intro h
    unfold ck at h
    injection h with h1 h2
    injection h2 with h2 _
    injection h1 with h1
    injection h2 with h2
    exact Prod.ext h1 h2
  · rintro rfl; rfl
def encE {α : Type} (f : α → D) (l : List ((Int × Int) × α)) : List (List Key × D) := l.map fun e => (ck e.1, f e.2)
theorem lk_enc {α : Type} (f : α → D) (l : List ((Int × Int) × α)) (k : Int × Int) : lk (encE f l) (ck k) = (lkA l k).map f := by
  unfold encE
  induction l with
  | nil => rfl
  | cons p l ih =>
    obtain ⟨j, v⟩ := p
    rw [lkA_cons, List.map_cons]
    unfold lk
    by_cases e : j = k
    · rw [List.find?_cons_of_pos (by simp [e]), if_pos e]; rfl
    · rw [List.find?_cons_of_neg (by simpa [ck_inj] using e), if_neg e]
      exact ih
theorem pt_enc {α : Type} (f : α → D) (l : List ((Int × Int) × α)) (k : Int × Int) (v : α) : pt (encE f l) (ck k) (f v) = encE f (ptA l k v) := by
  unfold pt ptA encE
  have e1 : ((l.map fun e => (ck e.1, f e.2)).any fun e => decide (e.1 = ck k)) = l.any fun e => decide (e.1 = k) := by
    rw [List.any_map]
    congr 1
    funext e
    exact decide_eq_decide.mpr ck_inj
  rw [e1]
  split
  · rw [List.map_map, List.map_map]
    refine List.map_congr_left fun e _ => ?_
    show (if ck e.1 = ck k then (ck e.1, f v) else (ck e.1, f e.2)) = (ck (if e.1 = k then (e.1, v) else e).1, f (if e.1 = k then (e.1, v) else e).2)
    by_cases h : e.1 = k
    · rw [if_pos h, if_pos (by rw [h])]
    · rw [if_neg h, if_neg (fun z => h (ck_inj.mp z))]
  · rw [List.map_append]
    rfl
theorem encE_len {α : Type} (f : α → D) (l : List ((Int × Int) × α)) : (encE f l).length = l.length := List.length_map _
section
variable {α β : Type} (ρ ρ1 : Rho) (i : Nat) (ta tb : XV)
def withDO (f : D → Rho → Res α) (ρ : Rho) (o : Option D) : Res α := match o with
  | some x => if isDic x = true then f x ρ else .bad
  | none => .bad
theorem zgc (f : D → Rho → Res α) : withD i f ρ = withDO f ρ (rdD i ρ) := by unfold withD withDO; rfl
theorem zgd (f : D → Rho → Res α) (z : Bool) (es : List (List Key × D)) : withDO f ρ (some (.dicT z es)) = f (.dicT z es) ρ := rfl
theorem zge (f : D → Rho → Res α) (z : Bool) (es : List (Key × D)) : withDO f ρ (some (.dicK z es)) = f (.dicK z es) ρ := rfl
theorem zgf : xDGet2 i ta tb ρ = withD i (getk0 i ta tb) ρ := rfl
theorem zgg (d : D) : getk0 i ta tb d ρ = (ta ρ).bind (getk1 i tb) := rfl
theorem zgh (k : D) : getk1 i tb k ρ = (tb ρ).bind (getk2 i k) := rfl
theorem zgi (k x : D) : getk2 i k x ρ = withD i (getk3 k x) ρ := rfl
def getO3 (x : D) (ρ : Rho) (o : Option (Option D)) : Res D := match o with
  | some r => .ok (r.getD x) ρ
  | none => .bad
theorem zgj (k x y : D) : getk3 k x y ρ = getO3 x ρ (dGetO y k) := by unfold getk3 getO3; rfl
theorem zgk (x : D) (r : Option D) : getO3 x ρ (some r) = .ok (r.getD x) ρ := rfl
theorem zgl (tk : XV) : xDGetV ta tk tb ρ = (ta ρ).bind (getv0 tk tb) := rfl
theorem zgm (z : Bool) (es : List (List Key × D)) : getv0 ta tb (.dicT z es) ρ = (ta ρ).bind (getv1 tb (.dicT z es)) := rfl
theorem zgn (z : Bool) (es : List (Key × D)) : getv0 ta tb (.dicK z es) ρ = (ta ρ).bind (getv1 tb (.dicK z es)) := rfl
theorem zgo (y k : D) : getv1 tb y k ρ = (tb ρ).bind (getv2 y k) := rfl
theorem zgp (y k x : D) : getv2 y k x ρ = getk3 k x y ρ := rfl
theorem zgq (z : Bool) (es : List (List Key × D)) (a b : Int) : dGetO (.dicT z es) (.tup [.int a, .int b]) = some (lk es (ck (a, b))) := rfl
theorem zgr (z : Bool) (es : List (Key × D)) (a : Int) : dGetO (.dicK z es) (.int a) = some (lk es (.inl a)) := rfl
theorem zgs : xDIxV ta tb ρ = (ta ρ).bind (ixv0 tb) := rfl
theorem zgt (z : Bool) (es : List (List Key × D)) : ixv0 ta (.dicT z es) ρ = (ta ρ).bind (ixv1 (.dicT z es)) := rfl
theorem zgu (z : Bool) (es : List (Key × D)) : ixv0 ta (.dicK z es) ρ = (ta ρ).bind (ixv1 (.dicK z es)) := rfl
theorem zgv (y k : D) : ixv1 y k ρ = liftO (dIxD y k) ρ := rfl
theorem zgw : xDIx i ta ρ = withD i (dixk0 i ta) ρ := rfl
theorem zgx (d : D) : dixk0 i ta d ρ = (ta ρ).bind (dixk1 i) := rfl
theorem zgy (k : D) : dixk1 i k ρ = withD i (dixk2 i k) ρ := rfl
theorem zgz (k y : D) : dixk2 i k y ρ = liftO (dIxD y k) ρ := rfl
theorem zgA (z : Bool) (es : List (List Key × D)) (a b : Int) : dIxD (.dicT z es) (.tup [.int a, .int b]) = lk es (ck (a, b)) := rfl
theorem zgB (z : Bool) (es : List (Key × D)) (a : Int) : dIxD (.dicK z es) (.int a) = lk es (.inl a) := rfl
theorem zgC (z : Bool) (es : List (List Key × D)) (a b : Int) : dInX (.tup [.int a, .int b]) (.dicT z es) = some (.bl (lk es (ck (a, b))).isSome) := rfl
theorem zgD (z : Bool) (es : List (List Key × D)) (a b : Int) : dNotInX (.tup [.int a, .int b]) (.dicT z es) = some (.bl (!(lk es (ck (a, b))).isSome)) := rfl
theorem zgE (x : D) (ds : List D) : dInX x (.lst ds) = (inD x (.lst ds)).map .bl := rfl
theorem zgF (x : D) (ds : List D) : dNotInX x (.lst ds) = (inD x (.lst ds)).map fun b => .bl (!b) := rfl
theorem zgG (z : Bool) (es : List (List Key × D)) (a b : Int) : inX (.tup [.int a, .int b]) (.dicT z es) = some (lk es (ck (a, b))).isSome := rfl
theorem zgH (x : D) (ds : List D) : inX x (.lst ds) = inD x (.lst ds) := rfl
theorem zgI (x y : D) : dBl dInX x y = inX x y := by unfold dBl dInX; cases inX x y <;> rfl
theorem zgJ (x y : D) : dBl dNotInX x y = (inX x y).map (!·) := by unfold dBl dNotInX; cases inX x y <;> rfl
theorem zgK : xDPut i ta tb ρ = (tb ρ).fl (putk1 i ta) := rfl
def putO1 (i : Nat) (tk : XV) (d : D) (ρ : Rho) (o : Option D) : Fl := match o with
  | some y => if isDic y = true then (tk ρ).fl (putk2 i d) else .bad
  | none => .bad
theorem zgL (d : D) : putk1 i ta d ρ = putO1 i ta d ρ (ownD i ρ) := by unfold putk1 putO1; rfl
theorem zgM (d : D) (z : Bool) (es : List (List Key × D)) : putO1 i ta d ρ (some (.dicT z es)) = (ta ρ).fl (putk2 i d) := rfl
theorem zgN (d : D) (z : Bool) (es : List (Key × D)) : putO1 i ta d ρ (some (.dicK z es)) = (ta ρ).fl (putk2 i d) := rfl
theorem zgO (d k : D) : putk2 i d k ρ = putS i k d ρ (ownD i ρ) := rfl
theorem zgP (k d y : D) : putS i k d ρ (some y) = putO i ρ (dPutD y k d) := rfl
theorem zgQ (y : D) : putO i ρ (some y) = .nx (ρ.set i (.own y)) := rfl
theorem zgR {es : List (List Key × D)} (hz : es.length < sizeLine) (a b : Int) (d : D) : dPutD (.dicT false es) (.tup [.int a, .int b]) d = some (.dicT false (pt es (ck (a, b)) d)) := by
  show (if es.length < sizeLine then some (D.dicT false (pt es (ck (a, b)) d)) else none) = _
  rw [if_pos hz]
theorem zgU : xKeysV ta ρ = (ta ρ).bind keysv := rfl
theorem zgV (z : Bool) (es : List (List Key × D)) : keysv (.dicT z es) ρ = liftO (dKeysL (.dicT z es)) ρ := rfl
theorem zgW (z : Bool) (es : List (List Key × D)) : dKeysL (.dicT z es) = some (.lst (es.map fun e => .tup (e.1.map dKey))) := rfl
theorem zhi (a b c : D) : lk [((.inl 4 : Key), a), (.inl 6, b), (.inl 8, c)] (.inl 4) = some a := rfl
theorem zhj (a b c : D) : lk [((.inl 4 : Key), a), (.inl 6, b), (.inl 8, c)] (.inl 6) = some b := rfl
theorem zhk (a b c : D) : lk [((.inl 4 : Key), a), (.inl 6, b), (.inl 8, c)] (.inl 8) = some c := rfl
end
theorem zhn (n : Int) (ns : List Int) : dInX (.int n) (.tup (ns.map D.int)) = some (.bl (decide (n ∈ ns))) := by
  unfold dInX inX
  simp only
  rw [zfa]
  rfl
theorem zho (n : Int) (ns : List Int) : dNotInX (.int n) (.tup (ns.map D.int)) = some (.bl (!decide (n ∈ ns))) := by
  unfold dNotInX inX
  simp only
  rw [zfa]
  rfl
end G


set_option maxHeartbeats 4000000
namespace G
open PySem PySem.Spec PyProof.Rows L2

abbrev ruleD (k : Int) (bs ss : List Int) : D := .tup [.int k, .tup (bs.map D.int), .tup (ss.map D.int)]
def upN (n : Nat) : List Int := (List.range n).map fun i => ((i : Nat) : Int)
theorem upN_len (n : Nat) : (upN n).length = n := by unfold upN; rw [List.length_map, List.length_range]
theorem mem_upN {n : Nat} {x : Int} : x ∈ upN n ↔ 0 ≤ x ∧ x < n := by
  unfold upN
  rw [List.mem_map]
  constructor
  · rintro ⟨i, hi, rfl⟩
    have := List.mem_range.mp hi
    omega
  · rintro ⟨h1, h2⟩
    exact ⟨x.toNat, List.mem_range.mpr (by omega), by omega⟩
theorem upN_lt (n : Nat) : (upN n).Pairwise (· < ·) := by
  unfold upN
  exact List.pairwise_map.mpr (List.Pairwise.imp (fun {a b} (h : a < b) => by omega) List.pairwise_lt_range)
noncomputable def pb_comes : XS := (xSeq (xIfS (xTest (xVar 1))
    (xRet (xOp2 dInX (xVar 2) (xOp2 dIx (xVar 0) (xC (.int 2)))))
    xNext)
    (xRet (xOp2 dInX (xVar 2) (xOp2 dIx (xVar 0) (xC (.int 1))))))
noncomputable def p_comes : DF := runP [false, false, false] 3 false pb_comes
end G


set_option maxHeartbeats 4000000
namespace G
open PySem PySem.Spec PyProof.Rows L2
local macro_rules | `(tactic| simp! [$ls,*] $[$loc:location]?) => `(tactic| simp only [zaa, zab, zac, zad, zae, zaf, zag, zah, zai, zaj, zak, zal, zam, zan, zao, zap, zaq, zar, zas, zat, zau, zav, zaw, zax, zay, zaz, zaA, zaB, zaC, zaD, zaE, zaF, zaG, zaH, zaI, zaJ, zaK, zaL, zaM, zaN, zaO, zaP, zaQ, zaR, zaS, zaT, zaU, zaV, zaW, zaX, zaY, zaZ, zba, zbb, zbc, zbd, zbe, zbf, zbg, zbh, zbi, zbj, zbk, zbl, zbm, zbn, zbo, zbp, zbq, zbr, zbs, zbt, zbu, zbv, zbw, zbx, zby, zbz, zbA, zbB, zbC, zbD, zbE, zbF, zbG, zbH, zbI, zbJ, zbK, zbL, zbM, zbN, zbO, zbP, zbQ, zbR, zbS, zbT, zbU, zbV, zbW, zbX, zbY, zbZ, zca, zcb, zcc, zcd, zce, zcf, zcg, zch, zci, zcj, zck, zcl, zcm, zcn, zco, zcp, zcq, zcr, zcs, zct, zcu, zcv, zcw, zcx, zcy, zcz, zcA, zcB, zcC, zcD, zcE, zcF, zcG, zcH, zcI, zcJ, zcK, zcL, zcM, zcN, zcO, zcP, zcQ, zcR, zcS, zcT, zcU, zcV, zcW, zcX, zcY, zcZ, zda, zdb, zdc, zdd, zde, zdf, zdg, zdh, zdi, zdj, zdk, zdl, zdm, zdn, zdo, zdp, zdq, zdr, zds, zdt, zdu, zdv, zdw, zdx, zdy, zdz, zdA, zdB, zdC, zdD, zdE, zdF, zdG, zdH, zdI, zdJ, zdK, zdL, zdM, zdN, zdO, zdP, zdQ, zdR, zdS, zdT, zdU, zdV, G.of_f, G.of_t, zdW, zdX, zdY, zdZ, zea, zeb, zec, zed, zee, zef, zeg, zeh, zei, zej, zek, zel, zem, zen, zeo, zep, zeq, zer, zes, zet, zeu, zev, zew, zex, zey, zez, zeA, zeB, zeC, zeD, zeE, zeH, zeI, zeJ, zeK, zeL, zeM, zeN, zeO, zeX, zeY, zeZ, zfa, zfb, zfc, G.sz_1, G.sz_2, G.sz_3, G.sz_4, G.sz_0, zfd, zfk, zfl, zfm, zfv, zfw, G.nc_0, G.nc_1, G.nc_2, G.nc_3, G.nc_4, G.nc_5, G.nc_6, G.nc_7, G.nc_8, G.nc_9, zfx, zfy, zfz, zfA, zfB, zfC, zfD, zfE, zfF, zfG, zfH, zfK, zfL, zfM, zfN, zfO, zgc, zgd, zge, zgf, zgg, zgh, zgi, zgj, zgk, zgl, zgm, zgn, zgo, zgp, zgq, zgr, zgs, zgt, zgu, zgv, zgw, zgx, zgy, zgz, zgA, zgB, zgC, zgD, zgE, zgF, zgG, zgH, zgI, zgJ, zgK, zgL, zgM, zgN, zgO, zgP, zgQ, zgR, zgU, zgV, zgW, zhi, zhj, zhk, zhn, zho, List.getElem?_cons_zero, List.getElem?_cons_succ, List.set_cons_zero, List.set_cons_succ, G.atI_0, G.atI_1, G.atI_2, G.atI_3, Option.map_some, Option.bind_some, G.eqD_int, G.eqD_cell, G.eqD_bl, List.length_cons, List.length_nil, List.getD_cons_zero, List.getD_cons_succ, Bool.and_true, Bool.and_self, decide_true, decide_false, Bool.not_true, Bool.not_false, List.append_nil, List.nil_append, List.cons_append, if_true, if_false, Bool.false_eq_true, reduceIte, Int.reduceLT, Int.reduceLE, Int.reduceToNat, Int.reducePow, Int.reduceNeg, Int.reduceAdd, Int.reduceSub, Int.reduceMul, Nat.reduceAdd, Int.reduceEq, List.replicate, Nat.reduceSub, and_self, and_true, true_and, $ls,*] $[$loc]?)

theorem take_snoc {α : Type} {l : List α} {i : Nat} {a : α} (h : l[i]? = some a) : l.take (i + 1) = l.take i ++ [a] := by
  rw [List.take_add_one, h]
  rfl
theorem szB {n : Nat} (h : n ≤ 20000) : n ≤ sizeLine := Nat.le_trans h (by rw [sizeLine_eq]; decide)
theorem szBl {n : Nat} (h : n ≤ 20000) : n < sizeLine := Nat.lt_of_le_of_lt h (by rw [sizeLine_eq]; decide)
def rowL (h : Nat) (x : Int) : List (Int × Int) := (upN h).map fun y => (x, y)
def ringL (w h : Nat) : List (Int × Int) := (upN w).flatMap (rowL h)
theorem rowL_len (h : Nat) (x : Int) : (rowL h x).length = h := by unfold rowL; rw [List.length_map, upN_len]
theorem flat_len {α β : Type} (f : α → List β) (n : Nat) (l : List α) (hf : ∀ a, (f a).length = n) : (l.flatMap f).length = l.length * n := by
  induction l with
  | nil => simp
  | cons a l ih => rw [List.flatMap_cons, List.length_append, ih, hf, List.length_cons, Nat.succ_mul]; omega
theorem flat_le {α β : Type} (f : α → List β) (n : Nat) (l : List α) (hf : ∀ a, (f a).length ≤ n) : (l.flatMap f).length ≤ l.length * n := by
  induction l with
  | nil => simp
  | cons a l ih =>
    have := hf a
    rw [List.flatMap_cons, List.length_append, List.length_cons, Nat.succ_mul]; omega
theorem ringL_len (w h : Nat) : (ringL w h).length = w * h := by unfold ringL; rw [flat_len _ h _ (rowL_len h), upN_len]
theorem mem_ringL {w h : Nat} {p : Int × Int} : p ∈ ringL w h ↔ (0 ≤ p.1 ∧ p.1 < w) ∧ 0 ≤ p.2 ∧ p.2 < h := by
  unfold ringL rowL
  rw [List.mem_flatMap]
  constructor
  · rintro ⟨x, hx, hp⟩
    obtain ⟨y, hy, rfl⟩ := List.mem_map.mp hp
    exact ⟨mem_upN.mp hx, mem_upN.mp hy⟩
  · rintro ⟨hx, hy⟩
    exact ⟨p.1, mem_upN.mpr hx, List.mem_map.mpr ⟨p.2, mem_upN.mpr hy, rfl⟩⟩
theorem ringL_lt (w h : Nat) : (ringL w h).Pairwise fun p q => p.1 < q.1 ∨ p.1 = q.1 ∧ p.2 < q.2 := by
  unfold ringL rowL
  rw [List.pairwise_flatMap]
  refine ⟨fun x _ => List.pairwise_map.mpr ((upN_lt h).imp fun z => .inr ⟨rfl, z⟩), (upN_lt w).imp fun {a b} z p hp q hq => ?_⟩
  obtain ⟨_, _, rfl⟩ := List.mem_map.mp hp
  obtain ⟨_, _, rfl⟩ := List.mem_map.mp hq
  exact .inl z
theorem sort_lt {l : List (Int × Int)} (h : l.Pairwise fun p q => p.1 < q.1 ∨ p.1 = q.1 ∧ p.2 < q.2) : sortE l = l :=
  sortE_of_pw (h.imp fun {p q} z => by rw [leE_pair, decide_eq_true_eq]; omega)
/-- where a step leads on the ring -/
def onR (w h : Nat) (p : Int × Int) : Int × Int := (p.1 % w, p.2 % h)
def neg2 (d : Int × Int) : Int × Int := (-d.1, -d.2)
theorem sh_neg (d p : Int × Int) : sh (neg2 d) (sh d p) = p := by
  unfold sh neg2
  apply Prod.ext <;> simp only <;> omega
def imgs (w h : Nat) (k : Int) (live : List (Int × Int)) : List (Int × Int) := live.flatMap fun p => (near k).map fun d => onR w h (sh d p)
def cntT (l : List (Int × Int)) : List ((Int × Int) × Int) := l.foldl (fun T c => ptA T c ((lkA T c).getD 0 + 1)) []
theorem cntT_snoc (l : List (Int × Int)) (c : Int × Int) : cntT (l ++ [c]) = ptA (cntT l) c ((lkA (cntT l) c).getD 0 + 1) := by
  unfold cntT
  rw [List.foldl_append]
  rfl
theorem cntT_lk (l : List (Int × Int)) (c : Int × Int) : (lkA (cntT l) c).getD 0 = ((l.count c : Nat) : Int) := by
  unfold cntT
  suffices ∀ (l : List (Int × Int)) (T : List ((Int × Int) × Int)), (lkA (l.foldl (fun T c => ptA T c ((lkA T c).getD 0 + 1)) T) c).getD 0 = (lkA T c).getD 0 + ((l.count c : Nat) : Int) by
    rw [this, lkA_nil]
    simp
  intro l
  induction l with
  | nil => intro T; simp
  | cons a l ih =>
    intro T
    rw [List.foldl_cons, ih, lkA_pt, List.count_cons]
    by_cases e : c = a
    · subst e
      rw [if_pos rfl, if_pos (by simp)]
      show (lkA T c).getD 0 + 1 + _ = _
      omega
    · rw [if_neg e, if_neg (by simpa using fun z => e z.symm)]
      omega
theorem cntT_len (l : List (Int × Int)) : (cntT l).length ≤ l.length := by
  unfold cntT
  suffices ∀ (l : List (Int × Int)) (T : List ((Int × Int) × Int)), (l.foldl (fun T c => ptA T c ((lkA T c).getD 0 + 1)) T).length ≤ T.length + l.length by
    have := this l []
    simpa using this
  intro l
  induction l with
  | nil => intro T; exact Nat.le_refl _
  | cons a l ih =>
    intro T
    have h1 := ih (ptA T a ((lkA T a).getD 0 + 1))
    have h2 := ptA_len T a ((lkA T a).getD 0 + 1)
    rw [List.foldl_cons, List.length_cons]
    omega
def allT (l : List (Int × Int)) : List ((Int × Int) × Bool) := l.foldl (fun T c => ptA T c true) []
theorem allT_snoc (l : List (Int × Int)) (c : Int × Int) : allT (l ++ [c]) = ptA (allT l) c true := by
  unfold allT
  rw [List.foldl_append]
  rfl
theorem allT_lk (l : List (Int × Int)) (c : Int × Int) : (lkA (allT l) c).isSome = decide (c ∈ l) := by
  unfold allT
  suffices ∀ (l : List (Int × Int)) (T : List ((Int × Int) × Bool)), (lkA (l.foldl (fun T c => ptA T c true) T) c).isSome = ((lkA T c).isSome || decide (c ∈ l)) by
    rw [this, lkA_nil]
    simp
  intro l
  induction l with
  | nil => intro T; simp
  | cons a l ih =>
    intro T
    rw [List.foldl_cons, ih, lkA_pt]
    by_cases e : c = a
    · subst e
      simp
    · rw [if_neg e]
      simp [e]
theorem allT_len (l : List (Int × Int)) : (allT l).length ≤ l.length := by
  unfold allT
  suffices ∀ (l : List (Int × Int)) (T : List ((Int × Int) × Bool)), (l.foldl (fun T c => ptA T c true) T).length ≤ T.length + l.length by
    have := this l []
    simpa using this
  intro l
  induction l with
  | nil => intro T; exact Nat.le_refl _
  | cons a l ih =>
    intro T
    have h1 := ih (ptA T a true)
    have h2 := ptA_len T a true
    rw [List.foldl_cons, List.length_cons]
    omega
theorem lk_int (T : List ((Int × Int) × Int)) (k : Int × Int) : (lk (encE D.int T) (ck k)).getD (.int 0) = .int ((lkA T k).getD 0) := by
  rw [lk_enc]
  cases lkA T k <;> rfl
theorem pt_int (T : List ((Int × Int) × Int)) (k : Int × Int) (v : Int) : pt (encE D.int T) (ck k) (.int v) = encE D.int (ptA T k v) := pt_enc D.int T k v
theorem pt_bl (T : List ((Int × Int) × Bool)) (k : Int × Int) (v : Bool) : pt (encE D.bl T) (ck k) (.bl v) = encE D.bl (ptA T k v) := pt_enc D.bl T k v
theorem lk_some {α : Type} (f : α → D) (T : List ((Int × Int) × α)) (k : Int × Int) : (lk (encE f T) (ck k)).isSome = (lkA T k).isSome := by
  rw [lk_enc]
  cases lkA T k <;> rfl
theorem comes_is (k n : Int) (bs ss : List Int) (b : Bool) : p_comes [ruleD k bs ss, .bl b, .int n] = .ok (.bl (decide (n ∈ if b = true then ss else bs))) [] := by
  unfold p_comes pb_comes
  cases b <;> simp! [ruleD, zhn]
end G


set_option maxHeartbeats 4000000
namespace G
open PySem PySem.Spec PyProof.Rows L2

/-- a picture on the ring, its cells in their order -/
def OnRing (w h : Nat) (l : List (Int × Int)) : Prop := (l.Pairwise fun p q => p.1 < q.1 ∨ p.1 = q.1 ∧ p.2 < q.2) ∧ ∀ p ∈ l, p ∈ ringL w h
theorem OnRing.nodup {w h : Nat} {l : List (Int × Int)} (H : OnRing w h l) : l.Nodup := H.1.imp fun {p q} z e => by subst e; omega
theorem OnRing.sort {w h : Nat} {l : List (Int × Int)} (H : OnRing w h l) : sortE l = l := sort_lt H.1
theorem OnRing.sub {w h : Nat} {l m : List (Int × Int)} (H : OnRing w h l) (s : m.Sublist l) : OnRing w h m := ⟨H.1.sublist s, fun p hp => H.2 p (s.subset hp)⟩
theorem OnRing.ring (w h : Nat) : OnRing w h (ringL w h) := ⟨ringL_lt w h, fun _ z => z⟩
theorem nodup_len {l m : List (Int × Int)} (hl : l.Nodup) (h : ∀ p ∈ l, p ∈ m) : l.length ≤ m.length := by
  induction l generalizing m with
  | nil => exact Nat.zero_le _
  | cons a l ih =>
    have ha := h a (by simp)
    obtain ⟨h1, h2⟩ := List.nodup_cons.mp hl
    have := ih h2 (m := m.erase a) fun p hp => (List.mem_erase_of_ne (fun e => h1 (by rw [← e]; exact hp))).mpr (h p (by simp [hp]))
    rw [List.length_erase_of_mem ha] at this
    have hp := List.length_pos_of_mem ha
    rw [List.length_cons]
    omega
theorem OnRing.len {w h : Nat} {l : List (Int × Int)} (H : OnRing w h l) (hw : 3 ≤ w ∧ w ≤ 40) (hh : 3 ≤ h ∧ h ≤ 40) : l.length ≤ 1600 := by
  have h1 := nodup_len H.nodup H.2
  rw [ringL_len] at h1
  have : w * h ≤ 40 * 40 := Nat.mul_le_mul hw.2 hh.2
  omega
end G


set_option maxHeartbeats 4000000
namespace G
open PySem PySem.Spec PyProof.Rows L2

theorem OnRing.ext {w h : Nat} {l m : List (Int × Int)} (hl : OnRing w h l) (hm : OnRing w h m) (e : ∀ p, p ∈ l ↔ p ∈ m) : l = m := by
  have p : l.Perm m := (List.perm_ext_iff_of_nodup hl.nodup hm.nodup).mpr e
  have := sortE_cong p
  rwa [hl.sort, hm.sort] at this
end G


set_option maxHeartbeats 4000000
namespace G
open PySem PySem.Spec PyProof.Rows L2

def MaskG (m : Nat) : Prop := m = 7 ∨ m = 31 ∨ m = 127 ∨ m = 511 ∨ m = 2047 ∨ m = 8191
/-- none of the next n steps stands at 0, the one behind them does -/
def homeIn (m : Nat) : Nat → Nat → Bool
  | 0, x => x == 0
  | n + 1, x => x != 0 && homeIn m n ((x * 5 + 1) % (m + 1))
theorem home7 : homeIn 7 7 1 = true := by decide +kernel
theorem home31 : homeIn 31 31 1 = true := by decide +kernel
theorem home127 : homeIn 127 127 1 = true := by decide +kernel
theorem home511 : homeIn 511 511 1 = true := by decide +kernel
theorem home2047 : homeIn 2047 2047 1 = true := by decide +kernel
theorem home8191 : homeIn 8191 8191 1 = true := by decide +kernel
theorem MaskG.home {m : Nat} (hm : MaskG m) : homeIn m m 1 = true := by
  rcases hm with rfl | rfl | rfl | rfl | rfl | rfl
  · exact home7
  · exact home31
  · exact home127
  · exact home511
  · exact home2047
  · exact home8191

theorem MaskG.inj {m : Nat} (hm : MaskG m) {x y : Nat} (hx : x ≤ m) (hy : y ≤ m) (e : (x * 5 + 1) % (m + 1) = (y * 5 + 1) % (m + 1)) : x = y := by
  rcases hm with rfl | rfl | rfl | rfl | rfl | rfl <;> omega
theorem lcg_le (m n : Nat) : lcgN m n ≤ m := by
  cases n with
  | zero => exact Nat.zero_le _
  | succ n => exact Nat.le_of_lt_succ (Nat.mod_lt _ (Nat.succ_pos _))
theorem homeIn_spec {m : Nat} : ∀ (n a : Nat), homeIn m n (lcgN m a) = true → (∀ d, d < n → lcgN m (a + d) ≠ 0) ∧ lcgN m (a + n) = 0
  | 0, a, h => ⟨fun d hd => absurd hd (Nat.not_lt_zero _), by simpa [homeIn] using h⟩
  | n + 1, a, h => by
    unfold homeIn at h
    rw [Bool.and_eq_true, bne_iff_ne] at h
    obtain ⟨h1, h2⟩ := homeIn_spec n (a + 1) h.2
    refine ⟨fun d hd => ?_, by rw [show a + (n + 1) = a + 1 + n by omega]; exact h2⟩
    cases d with
    | zero => exact h.1
    | succ d => rw [show a + (d + 1) = a + 1 + d by omega]; exact h1 d (by omega)
theorem MaskG.one {m : Nat} (hm : MaskG m) : lcgN m 1 = 1 := by
  show (0 * 5 + 1) % (m + 1) = 1
  rcases hm with rfl | rfl | rfl | rfl | rfl | rfl <;> rfl
theorem MaskG.away {m : Nat} (hm : MaskG m) {n : Nat} (h0 : 0 < n) (h1 : n ≤ m) : lcgN m n ≠ 0 := by
  have h := (homeIn_spec m 1 (by rw [hm.one]; exact hm.home)).1 (n - 1) (by omega)
  rwa [show 1 + (n - 1) = n by omega] at h
theorem MaskG.back {m : Nat} (hm : MaskG m) : lcgN m (m + 1) = 0 := by
  have h := (homeIn_spec m 1 (by rw [hm.one]; exact hm.home)).2
  rwa [show 1 + m = m + 1 by omega] at h
theorem MaskG.apart {m : Nat} (hm : MaskG m) {d : Nat} : ∀ a, lcgN m (a + d) = lcgN m a → lcgN m d = 0
  | 0, e => by rw [Nat.zero_add] at e; exact e
  | a + 1, e => hm.apart a (hm.inj (lcg_le _ _) (lcg_le _ _) (by
      rw [show a + 1 + d = a + d + 1 by omega] at e
      exact e))
theorem MaskG.met0 {m : Nat} (hm : MaskG m) {j : Nat} (hj : j ≤ m) : ∃ n, n ≤ m ∧ lcgN m n = j := by
  refine Classical.byContradiction fun hno => ?_
  have hn : ∀ n, n ≤ m → lcgN m n ≠ j := fun n h e => hno ⟨n, h, e⟩
  have nd : ((List.range (m + 1)).map (lcgN m)).Nodup := by
    refine List.pairwise_map.mpr (List.pairwise_lt_range.imp_of_mem fun {a b} ha hb hlt e => ?_)
    have hb' := List.mem_range.mp hb
    refine hm.away (n := b - a) (by omega) (by omega) (hm.apart a ?_)
    rw [show a + (b - a) = b by omega]
    exact e.symm
  have nd2 : (j :: (List.range (m + 1)).map (lcgN m)).Nodup := List.nodup_cons.mpr ⟨fun h => by
    obtain ⟨n, h1, h2⟩ := List.mem_map.mp h
    exact hn n (Nat.le_of_lt_succ (List.mem_range.mp h1)) h2, nd⟩
  have := nat_nodup_len _ (List.range (m + 1)) nd2 fun x hx => by
    rcases List.mem_cons.mp hx with rfl | hx
    · exact List.mem_range.mpr (Nat.lt_succ_of_le hj)
    · obtain ⟨n, _, rfl⟩ := List.mem_map.mp hx
      exact List.mem_range.mpr (Nat.lt_succ_of_le (lcg_le _ _))
  rw [List.length_cons, List.length_map, List.length_range] at this
  omega
theorem MaskG.turn {m : Nat} (hm : MaskG m) : ∀ n, lcgN m (m + 1 + n) = lcgN m n
  | 0 => hm.back
  | n + 1 => by
    show (lcgN m (m + 1 + n) * 5 + 1) % (m + 1) = (lcgN m n * 5 + 1) % (m + 1)
    rw [hm.turn n]
/-- from each slot the round leads to each -/
theorem MaskG.met {m : Nat} (hm : MaskG m) {i j : Nat} (hi : i ≤ m) (hj : j ≤ m) : ∃ n, n ≤ m ∧ lcgI m i n = j := by
  obtain ⟨a, ha, rfl⟩ := hm.met0 hi
  obtain ⟨b, hb, rfl⟩ := hm.met0 hj
  by_cases h : a ≤ b
  · exact ⟨b - a, by omega, by rw [lcgN_add, show a + (b - a) = b by omega]⟩
  · exact ⟨m + 1 + b - a, by omega, by rw [lcgN_add, show a + (m + 1 + b - a) = m + 1 + b by omega, hm.turn]⟩
theorem MaskG.run {m : Nat} (hm : MaskG m) (h : Int) {j : Nat} (hj : j ≤ m) : ∃ n, n ≤ m + 12 ∧ runI m (SetTable.bits h) n = j := by
  obtain ⟨n, hn, e⟩ := hm.met (runI_le m (SetTable.bits h) 12) hj
  exact ⟨12 + n, by omega, (runI_tail (bits_lt h) n).trans e⟩
/-- each slot stands on each hash's way, early enough -/
theorem MaskG.way {m : Nat} (hm : MaskG m) (h : Int) {j : Nat} (hj : j ≤ m) : ∃ k, k < 10 * SetTable.turns m ∧ L2.way m h k = j := by
  obtain ⟨n, hn, e⟩ := hm.run h hj
  obtain ⟨k, hk, ek⟩ := run_nth m (SetTable.bits h) n
  refine ⟨k, ?_, ?_⟩
  · show k < 10 * (m + 15)
    omega
  · show (nth m _ k).j = j
    rw [ek]
    exact e
theorem way_in (m : Nat) (h : Int) (k : Nat) : L2.way m h k ≤ m := by
  have hi : SetTable.bits h % (m + 1) ≤ m := Nat.le_of_lt_succ (Nat.mod_lt _ (Nat.succ_pos m))
  have r := runEnd_bd hi
  have q := nth_in (m := m) k (runAt m (SetTable.bits h % (m + 1)) (SetTable.bits h)) (by
    show SetTable.bits h % (m + 1) + (SetTable.runEnd m (SetTable.bits h % (m + 1)) - SetTable.bits h % (m + 1)) ≤ m
    omega)
  exact Nat.le_trans (Nat.le_add_right _ _) q
/-- the slots taken ahead of the k-th step of a hash's way -/
def Filled (m : Nat) (P : List Nat) (h : Int) (k : Nat) : Prop := ∀ c, c < k → L2.way m h c ∈ P
theorem Filled.mono {m : Nat} {P Q : List Nat} {h : Int} {k : Nat} (f : Filled m P h k) (s : ∀ x ∈ P, x ∈ Q) : Filled m Q h k := fun c hc => s _ (f c hc)
/-- a table: slots P rising, hashes hs beside them, each found on its way -/
structure TabG (t : SetTable) (hs : List Int) : Prop where
  mok : MaskG t.mask
  ris : Ris t.place.toList
  dm : t.dummies = #[]
  len : t.place.toList.length = hs.length
  found : ∀ (i : Nat) (h : Int) (j : Nat), hs[i]? = some h → t.place.toList[i]? = some j → ∃ k, L2.way t.mask h k = j ∧ Filled t.mask t.place.toList h k
theorem TabG.gap {t : SetTable} {hs : List Int} (T : TabG t hs) (hl : hs.length ≤ t.mask) (h : Int) : ∃ K, K < 10 * SetTable.turns t.mask ∧ L2.way t.mask h K ∉ t.place.toList ∧ Filled t.mask t.place.toList h K := by
  obtain ⟨j, hj, hn⟩ := st_missing t.place.toList (t.mask + 1) (by rw [T.len]; omega)
  obtain ⟨k, hk, e⟩ := T.mok.way h (Nat.le_of_lt_succ hj)
  obtain ⟨K, h1, h2, h3⟩ := st_least (p := fun k => L2.way t.mask h k ∉ t.place.toList) k (e ▸ hn)
  exact ⟨K, Nat.lt_of_le_of_lt h1 hk, h2, fun c hc => Classical.byContradiction fun z => h3 c hc z⟩
theorem TabG.ahead {t : SetTable} {hs : List Int} (T : TabG t hs) {h : Int} {K i j : Nat} (hK : L2.way t.mask h K ∉ t.place.toList) (hi : hs[i]? = some h) (hj : t.place.toList[i]? = some j) : ∃ k, k < K ∧ L2.way t.mask h k = j := by
  obtain ⟨k, e, f⟩ := T.found i h j hi hj
  refine ⟨k, Nat.lt_of_not_le fun z => ?_, e⟩
  rcases Nat.lt_or_eq_of_le z with z | z
  · exact hK (f K z)
  · subst z
    exact hK (e ▸ List.mem_of_getElem? hj)
theorem TabG.add {t : SetTable} {hs : List Int} (T : TabG t hs) {h : Int} {K : Nat} (hK : L2.way t.mask h K ∉ t.place.toList) (f : Filled t.mask t.place.toList h K) (p : Nat) (hp : p = SetTable.below t.place (L2.way t.mask h K)) :
    p ≤ hs.length ∧ TabG (t.put (L2.way t.mask h K)).1 (hs.take p ++ h :: hs.drop p) ∧ (t.put (L2.way t.mask h K)).1.fill = hs.length + 1 := by
  have hpl : p ≤ t.place.toList.length := by
    rw [hp, Array.length_toList]
    exact (below_cut T.ris _).1
  have hph : p ≤ hs.length := T.len ▸ hpl
  have hnp : t.place[SetTable.below t.place (L2.way t.mask h K)]? ≠ some (L2.way t.mask h K) := fun e => hK (List.mem_of_getElem? (by rw [Array.getElem?_toList]; exact e))
  have pl : (t.put (L2.way t.mask h K)).1.place.toList = t.place.toList.take p ++ L2.way t.mask h K :: t.place.toList.drop p := by
    rw [hp]
    exact put_place t _
  have hd := put_dm T.dm (L2.way t.mask h K)
  have hlen : (t.put (L2.way t.mask h K)).1.place.toList.length = hs.length + 1 := by rw [pl, len_ins _ hpl, T.len]
  have up : ∀ x ∈ t.place.toList, x ∈ (t.put (L2.way t.mask h K)).1.place.toList := fun x hx => by
    rw [pl]
    exact mem_ins.mpr (.inr hx)
  refine ⟨hph, ⟨T.mok, ris_insert T.ris hnp, hd, by rw [hlen, len_ins _ hph], fun i h' j' h1 h2 => ?_⟩, ?_⟩
  · show ∃ k, L2.way t.mask h' k = j' ∧ Filled t.mask _ h' k
    rw [tins_get hs hph] at h1
    rw [pl, tins_get _ hpl] at h2
    have old : ∀ i0, hs[i0]? = some h' → t.place.toList[i0]? = some j' → ∃ k, L2.way t.mask h' k = j' ∧ Filled t.mask (t.put (L2.way t.mask h K)).1.place.toList h' k := fun i0 a b =>
      let ⟨k, e, g⟩ := T.found i0 h' j' a b
      ⟨k, e, g.mono up⟩
    by_cases c : i < p
    · rw [if_pos c] at h1 h2
      exact old i h1 h2
    · rw [if_neg c] at h1 h2
      by_cases d : i = p
      · rw [if_pos d] at h1 h2
        cases h1
        cases h2
        exact ⟨K, rfl, f.mono up⟩
      · rw [if_neg d] at h1 h2
        exact old (i - 1) h1 h2
  · unfold SetTable.fill
    rw [hd, ← Array.length_toList, hlen]
    rfl
theorem MaskG.free {m : Nat} (hm : MaskG m) (owner : Array (Option Nat)) (h : Int) {j : Nat} (hj : j ≤ m) (hf : oAt owner j = none) :
    ∃ K, SetTable.layClean.free m owner (SetTable.turns m) (SetTable.bits h % (m + 1)) (SetTable.bits h) = some (L2.way m h K) ∧ oAt owner (L2.way m h K) = none ∧ ∀ k, k < K → oAt owner (L2.way m h k) ≠ none := by
  obtain ⟨n, hn, e⟩ := hm.run h hj
  have hw : L2.way m h (off m (SetTable.bits h % (m + 1)) (SetTable.bits h) n) = j := by
    show (nth m _ _).j = j
    rw [nth_off, itL_run]
    exact e
  obtain ⟨K, k1, k2, k3⟩ := st_least (p := fun k => oAt owner (L2.way m h k) = none) (off m (SetTable.bits h % (m + 1)) (SetTable.bits h) n) (by rw [hw]; exact hf)
  refine ⟨K, free_spec m owner (SetTable.turns m) n _ _ K (by show n < m + 15; omega) k1 (fun k hk => ?_) (by rw [show oAt owner _ = none from k2]; rfl), k2, k3⟩
  cases z : oAt owner (nth m (runAt m (SetTable.bits h % (m + 1)) (SetTable.bits h)) k).j with
  | none => exact absurd z (k3 k hk)
  | some _ => rfl
theorem MaskG.seat {m : Nat} (hm : MaskG m) {done : List Int} {owner : Array (Option Nat)} (W : L2.Own m done owner) (hl : done.length ≤ m) (h : Int) :
    ∃ j, SetTable.layClean.free m owner (SetTable.turns m) (SetTable.bits h % (m + 1)) (SetTable.bits h) = some j ∧ L2.Own m (done ++ [h]) (owner.setIfInBounds j (some done.length)) := by
  obtain ⟨ps, hps, hin⟩ := W.ps
  obtain ⟨j0, hj0, hout⟩ := st_missing ps (m + 1) (by omega)
  have free0 : oAt owner j0 = none := Classical.byContradiction fun z => hout (hin j0 (Nat.le_of_lt_succ hj0) z)
  obtain ⟨K, e1, e2, e3⟩ := hm.free owner h (Nat.le_of_lt_succ hj0) free0
  generalize hw : L2.way m h K = j at e1 e2
  have hj : j ≤ m := hw ▸ way_in m h K
  have here := oAt_set_self (owner := owner) (some done.length) (j := j) (by rw [W.sz]; exact Nat.lt_succ_of_le hj)
  have else_ : ∀ {i}, i ≠ j → oAt (owner.setIfInBounds j (some done.length)) i = oAt owner i := fun {i} c => oAt_set_ne _ c
  have stay : ∀ {i}, oAt owner i ≠ none → oAt (owner.setIfInBounds j (some done.length)) i ≠ none := fun {i} z => by
    by_cases c : i = j
    · subst c
      exact absurd e2 z
    · rw [else_ c]
      exact z
  refine ⟨j, e1, ⟨by rw [Array.size_setIfInBounds]; exact W.sz, fun i k hi e => ?_, fun k hk => ?_, j :: ps, by simp [hps], fun i hi e => ?_⟩⟩
  · by_cases c : i = j
    · subst c
      rw [here] at e
      cases e
      exact ⟨h, K, by simp, hw, fun k' hk' => stay (e3 k' hk')⟩
    · rw [else_ c] at e
      obtain ⟨h', K', a1, a2, a3⟩ := W.at_ i k hi e
      exact ⟨h', K', by rw [List.getElem?_append_left (List.getElem?_eq_some_iff.mp a1).1]; exact a1, a2, fun k' hk' => stay (a3 k' hk')⟩
  · rw [List.length_append] at hk
    rcases Nat.lt_or_ge k done.length with c | c
    · obtain ⟨i, hi, e⟩ := W.all k c
      exact ⟨i, hi, by rw [else_ (fun z => by rw [z, e2] at e; cases e)]; exact e⟩
    · have : k = done.length := Nat.le_antisymm (Nat.le_of_lt_succ hk) c
      subst this
      exact ⟨j, hj, here⟩
  · by_cases c : i = j
    · exact c ▸ List.mem_cons_self
    · rw [else_ c] at e
      exact List.mem_cons_of_mem _ (hin i hi e)
theorem MaskG.fold {m : Nat} (hm : MaskG m) : ∀ (rest done : List Int) (owner : Array (Option Nat)), L2.Own m done owner → done.length + rest.length ≤ m →
    ∃ o, rest.foldl (stepF m) (some (owner, done.length)) = some (o, done.length + rest.length) ∧ L2.Own m (done ++ rest) o
  | [], done, owner, W, _ => ⟨owner, rfl, by rwa [List.append_nil]⟩
  | h :: rest, done, owner, W, hl => by
    have hl' : done.length + (rest.length + 1) ≤ m := hl
    obtain ⟨j, e, W'⟩ := hm.seat W (by omega) h
    have hd : (done ++ [h]).length = done.length + 1 := by simp
    obtain ⟨o, f, V⟩ := hm.fold rest (done ++ [h]) _ W' (by omega)
    rw [hd] at f
    refine ⟨o, ?_, by simpa using V⟩
    rw [List.foldl_cons, stepF_some e, f, List.length_cons]
    congr 2
    omega
theorem MaskG.lay {m : Nat} (hm : MaskG m) {hs : Array Int} (hn : hs.size ≤ m) : ∃ owner, SetTable.layClean m hs = some owner ∧ L2.Own m hs.toList owner := by
  obtain ⟨o, f, W⟩ := hm.fold hs.toList [] _ (L2.Own.init m) (by simpa using hn)
  refine ⟨o, ?_, by simpa using W⟩
  rw [layClean_eq, show hs.toList.foldl (stepF m) (some (Array.replicate (m + 1) none, 0)) = _ from f]
  rfl
end G


set_option maxHeartbeats 4000000
namespace G
open PySem PySem.Spec PyProof.Rows L2

theorem MaskG.relaid (t : SetTable) {hs : Array Int} {wanted M : Nat} (hw : SetTable.sizeAbove wanted - 1 = M) (hM : MaskG M) (hn : hs.size ≤ M) :
    ∃ t' order, t.relaid hs wanted = some (t', order) ∧ order.toList.Perm (List.range hs.size) ∧ TabG t' (order.toList.map fun i => hs.getD i 0) ∧ t'.mask = M ∧ t'.led = t.led ∧ t'.plain = t.plain := by
  obtain ⟨owner, e, W⟩ := hM.lay hn
  have mem : ∀ j k, (j, k) ∈ liveOf M owner ↔ j ≤ M ∧ oAt owner j = some k := fun j k => mem_live W.sz
  obtain ⟨r1, r2⟩ : Ris ((liveOf M owner).map (·.1)) ∧ ∀ x ∈ (liveOf M owner).map (·.1), x ∈ List.range (M + 1) := ris_live (fun j => owner.getD j none) (List.range (M + 1)) (by
    unfold Ris
    exact List.pairwise_lt_range)
  have every : ∀ k, k < hs.size → k ∈ (liveOf M owner).map (·.2) := fun k hk => by
    obtain ⟨j, b1, b2⟩ := W.all k (by rw [Array.length_toList]; exact hk)
    exact List.mem_map.mpr ⟨(j, k), (mem j k).mpr ⟨b1, b2⟩, rfl⟩
  have hlen : (liveOf M owner).length = hs.size := by
    refine Nat.le_antisymm ?_ ?_
    · obtain ⟨ps, p1, p2⟩ := W.ps
      have nd : ((liveOf M owner).map fun q : Nat × Nat => q.1).Nodup := List.Pairwise.imp (fun {a b} (z : a < b) => Nat.ne_of_lt z) r1
      have := nat_nodup_len ((liveOf M owner).map fun q : Nat × Nat => q.1) ps nd fun x hx => by
        obtain ⟨⟨y, k⟩, hq, rfl⟩ := List.mem_map.mp hx
        obtain ⟨b1, b2⟩ := (mem y k).mp hq
        exact p2 y b1 (by rw [b2]; exact fun z => nomatch z)
      rw [List.length_map, p1, Array.length_toList] at this
      exact this
    · have := nat_nodup_len (List.range hs.size) ((liveOf M owner).map (·.2)) List.nodup_range fun k hk => every k (List.mem_range.mp hk)
      rw [List.length_map, List.length_range] at this
      exact this
  refine ⟨tabOf t M owner, ((liveOf M owner).map (·.2)).toArray, by rw [relaid_eq, hw, e]; rfl, perm_range hs.size _ (by rw [← hlen]; exact List.length_map _) every, ⟨hM, r1, rfl, ?_, fun i h j h1 h2 => ?_⟩, rfl, rfl, rfl⟩
  · show ((liveOf M owner).map (·.1)).length = (((liveOf M owner).map (·.2)).map fun i => hs.getD i 0).length
    simp only [List.length_map]
  · change (((liveOf M owner).map (·.2)).map fun i => hs.getD i 0)[i]? = some h at h1
    change ((liveOf M owner).map (·.1))[i]? = some j at h2
    rw [List.getElem?_map, List.getElem?_map] at h1
    rw [List.getElem?_map] at h2
    obtain ⟨⟨y, k⟩, hq, rfl⟩ := Option.map_eq_some_iff.mp h2
    rw [hq] at h1
    obtain ⟨b1, b2⟩ := (mem y k).mp (List.mem_of_getElem? hq)
    obtain ⟨g, K, a1, a2, a3⟩ := W.at_ y k b1 b2
    have hg : hs.getD k 0 = g := by rw [Array.getD_eq_getD_getElem?, ← Array.getElem?_toList, a1]; rfl
    have : g = h := hg.symm.trans (Option.some.inj h1)
    subst this
    refine ⟨K, a2, fun c hc => ?_⟩
    show L2.way M g c ∈ (liveOf M owner).map (·.1)
    cases z : oAt owner (L2.way M g c) with
    | none => exact absurd z (a3 c hc)
    | some k2 => exact List.mem_map.mpr ⟨(_, k2), (mem _ _).mpr ⟨way_in M g c, z⟩, rfl⟩
abbrev stp (m : Nat) (h : Int) (c : Nat) : SetTable.Probe := nth m (runAt m (SetTable.bits h % (m + 1)) (SetTable.bits h)) c
theorem stp_dummy (m : Nat) (h : Int) : ∀ c, (stp m h c).dummy = none
  | 0 => rfl
  | c + 1 => by
    show (nth m _ (c + 1)).dummy = none
    rw [nth_succ]
    unfold adv
    split <;> exact stp_dummy m h c
theorem stp_add (m : Nat) (h : Int) (c q : Nat) : nth m (stp m h c) q = stp m h (c + q) := (nth_add m c _ q).symm
theorem TabG.probe {t : SetTable} {hs : List Int} (T : TabG t hs) {h : Int} {K : Nat} (hKf : K < 10 * SetTable.turns t.mask) (hK : L2.way t.mask h K ∉ t.place.toList) (f : Filled t.mask t.place.toList h K) (hashAt : Nat → Int) {c : Nat} (hc : c ≤ K) :
    (∃ q i, c ≤ q ∧ q < K ∧ t.place.toList[i]? = some (L2.way t.mask h q) ∧ hashAt i = h ∧ (∀ q' i', c ≤ q' → q' < q → t.place.toList[i']? = some (L2.way t.mask h q') → hashAt i' ≠ h) ∧ t.probe hashAt h (stp t.mask h c) = some (.candidate (L2.way t.mask h q) i (stp t.mask h (q + 1)))) ∨
    ((∀ q' i', c ≤ q' → q' < K → t.place.toList[i']? = some (L2.way t.mask h q') → hashAt i' ≠ h) ∧ t.probe hashAt h (stp t.mask h c) = some (.empty (L2.way t.mask h K) none)) := by
  have g := go_spec t T.ris T.dm hashAt h (10 * SetTable.turns t.mask) (K - c) (stp t.mask h c) (stp_dummy _ _ c) (by omega)
    (fun q hq => by rw [stp_add]; exact f (c + q) (by omega)) (by rw [stp_add, show c + (K - c) = K by omega]; exact hK)
  rcases g with ⟨q, i, a1, a2, a3, a4, a5⟩ | ⟨a1, a2⟩
  · refine .inl ⟨c + q, i, by omega, by omega, by rw [stp_add] at a2; exact a2, a3, fun q' i' b1 b2 b3 => a4 (q' - c) i' (by omega) (by rw [stp_add, show c + (q' - c) = q' by omega]; exact b3), ?_⟩
    rw [stp_add, stp_add] at a5
    exact a5
  · refine .inr ⟨fun q' i' b1 b2 b3 => a1 (q' - c) i' (by omega) (by rw [stp_add, show c + (q' - c) = q' by omega]; exact b3), ?_⟩
    rw [stp_add, show c + (K - c) = K by omega] at a2
    exact a2
section
variable {P : Program} {w : World} {A : Around} {E : Value → Shared → Prop} {s : Shared}
structure SetG (P : Program) (w : World) (h : Heap) (a : Addr) (L : List (Addr × List Int)) (es : Array (Int × Value)) (ep : Nat) (t : SetTable) : Prop where
  obj : ∃ o, h.get? a = some o ∧ o.ExactSet ∧ o.data = .set es ep t
  rows : es.toList = rowsOf P w L
  tab : TabG t (L.map fun p => thash P w p.2)
  nd : (L.map (·.2)).Nodup
  tups : ∀ p ∈ L, IsT P w h p.2 p.1
  plain : t.plain = true
  led : w.params.followText "set-order" = true ∨ t.led = true
  room : L.length * 5 < t.mask * 3
variable {a : Addr} {L : List (Addr × List Int)} {es : Array (Int × Value)} {ep : Nat} {t : SetTable}
theorem rows_size {es : Array (Int × Value)} (h : es.toList = rowsOf P w L) : es.size = L.length := by
  have := congrArg List.length h
  rw [Array.length_toList] at this
  rw [this]
  exact List.length_map _
theorem rows_at {es : Array (Int × Value)} (h : es.toList = rowsOf P w L) {i : Nat} {p : Addr × List Int} (hp : L[i]? = some p) : es[i]? = some (thash P w p.2, Value.ref p.1) := by
  rw [← Array.getElem?_toList, h]
  show (L.map _)[i]? = _
  rw [List.getElem?_map, hp]
  rfl
theorem tab_fits {t : SetTable} {hs : List Int} (T : TabG t hs) {n : Nat} (hn : n = hs.length) (hl : n ≤ t.mask) : t.fits n = true := by
  have hp : t.place.size = n := by rw [← Array.length_toList, T.len, hn]
  unfold SetTable.fits SetTable.fill
  rw [T.dm, Bool.and_eq_true, beq_iff_eq, decide_eq_true_eq]
  exact ⟨hp, by rw [hp]; exact hl⟩
theorem SetG.fits (R : SetG P w s.heap a L es ep t) : t.fits es.size = true := tab_fits R.tab (by rw [rows_size R.rows, List.length_map]) (by have := rows_size R.rows; have := R.room; omega)
theorem MaskG.odd {m : Nat} (hm : MaskG m) : m % 2 = 1 := by
  rcases hm with rfl | rfl | rfl | rfl | rfl | rfl <;> rfl
theorem SetG.whole (R : SetG P w s.heap a L es ep t) : ¬ t.gaveWay = true := by
  unfold SetTable.gaveWay
  rw [R.tab.mok.odd]
  decide
/-- the search from the c-th step of the way on -/
theorem SetG.seek (R : SetG P w s.heap a L es ep t) {x : Addr} {k : List Int} (hx : IsT P w s.heap k x) (hu : A.units < cLine) {K : Nat} (hKf : K < 10 * SetTable.turns t.mask)
    (hK : L2.way t.mask (thash P w k) K ∉ t.place.toList) (hf : Filled t.mask t.place.toList (thash P w k) K) {Q : SetFound → Shared → Prop}
    (hin : k ∈ L.map (·.2) → Q (.there none) s) (hout : k ∉ L.map (·.2) → Q (.free (L2.way t.mask (thash P w k) K) false) s) :
    ∀ (n c : Nat) (stand : Option SetTable.Probe), stand.getD (t.probeStart (thash P w k)) = stp t.mask (thash P w k) c → c ≤ K → K - c < n →
      (∀ (i : Nat) p, L[i]? = some p → p.2 = k → ∃ q, c ≤ q ∧ q < K ∧ t.place.toList[i]? = some (L2.way t.mask (thash P w k) q)) →
      wpAny (model P w) A (setSearchFrom a (.ref x) (thash P w k) true n stand) Q E s := by
  intro n
  induction n with
  | zero => exact fun c stand _ _ h => absurd h (Nat.not_lt_zero _)
  | succ n ih =>
    intro c stand hst hc hn hto
    obtain ⟨o, ho, _, hd⟩ := R.obj
    rw [setSearchFrom_succ]
    refine wpAny_bind (wpAny_setState_of ho hd R.fits ?_)
    dsimp only
    refine wp_if_neg R.whole ?_
    try refine wpAny_bind (wpAny_pure ?_)
    have hashAt : ∀ {i : Nat} {p}, L[i]? = some p → (fun i => (es[i]?.map (·.1)).getD 0) i = thash P w p.2 := fun {i p} hp => by
      show (es[i]?.map (·.1)).getD 0 = _
      rw [rows_at R.rows hp]
      rfl
    rw [hst]
    rcases R.tab.probe hKf hK hf (fun i => (es[i]?.map (·.1)).getD 0) hc with ⟨q, i, q1, q2, hi, hh, hno, e⟩ | ⟨hno, e⟩
    · rw [e]
      dsimp only
      obtain ⟨p, hp⟩ : ∃ p, L[i]? = some p := by
        have h1 := (List.getElem?_eq_some_iff.mp hi).1
        rw [R.tab.len, List.length_map] at h1
        exact ⟨_, List.getElem?_eq_getElem h1⟩
      have hm := List.mem_of_getElem? hp
      have onward : wpAny (model P w) A (searchRest a (.ref x) (thash P w k) true n es t (L2.way t.mask (thash P w k) q) i (stp t.mask (thash P w k) (q + 1))) Q E s := by
        unfold searchRest
        rw [rows_at R.rows hp]
        dsimp only
        refine wpAny_bind (wpAny_holding (wpAny_eqBool_tuple hu (R.tups p hm) hx ?_))
        refine wpAny_bind (wpAny_setState_of ho hd R.fits ?_)
        dsimp only
        by_cases ek : p.2 = k
        · refine wp_if_pos (by simp [ek]) ?_
          exact wpAny_pure (hin (List.mem_map.mpr ⟨p, hm, ek⟩))
        · refine wp_if_neg (by simp [ek]) ?_
          try refine wpAny_bind (wpAny_pure ?_)
          rw [sameMem]
          dsimp only
          have hsl : t.slot (L2.way t.mask (thash P w k) q) = .live i := slot_live R.tab.ris hi
          simp only [if_true, hsl, rows_at R.rows hp]
          refine wpAny_bind (wpAny_isSame_ref_self (wpAny_bind (wpAny_pure ?_)))
          simp only [if_true]
          refine wp_if_neg (by simp [ek]) ?_
          refine ih (q + 1) _ rfl (by omega) (by omega) fun i0 p0 h0 e0 => ?_
          obtain ⟨q0, b1, b2, b3⟩ := hto i0 p0 h0 e0
          refine ⟨q0, Nat.lt_of_not_le fun z => ?_, b2, b3⟩
          rcases Nat.lt_or_eq_of_le z with z | z
          · exact hno q0 i0 b1 z b3 ((hashAt h0).trans (by rw [e0]))
          · subst z
            have e1 := slot_live R.tab.ris b3
            rw [hsl] at e1
            injection e1 with e1
            subst e1
            rw [hp] at h0
            cases h0
            exact ek e0
      by_cases hl : t.led = true
      · refine wp_if_neg (by simp [hl]) ?_
        try refine wpAny_bind (wpAny_pure ?_)
        exact onward
      · refine wp_if_pos (by simp [hl]) ?_
        refine wpAny_bind (seen_tup hx (fun y hy => ?_) ?_)
        · obtain ⟨e1, he, rfl⟩ := List.mem_map.mp hy
          have he2 : e1 ∈ es.toList := by
            have : e1 ∈ es ∧ e1.1 = thash P w k := by simpa using he
            simpa using this.1
          rw [R.rows] at he2
          obtain ⟨p2, hp2, rfl⟩ := List.mem_map.mp he2
          exact ⟨p2.2, p2.1, rfl, R.tups p2 hp2⟩
        · refine wp_if_neg (by decide) ?_
          try refine wpAny_bind (wpAny_pure ?_)
          exact onward
    · rw [e]
      dsimp only
      refine wpAny_pure (hout fun hm => ?_)
      obtain ⟨p0, h0, e0⟩ := List.mem_map.mp hm
      obtain ⟨i0, hi0⟩ := List.getElem?_of_mem h0
      obtain ⟨q0, b1, b2, b3⟩ := hto i0 p0 hi0 e0
      exact hno q0 i0 b1 b2 b3 ((hashAt hi0).trans (by rw [e0]))
theorem MaskG.turns {m : Nat} (hm : MaskG m) : 10 * SetTable.turns m < 100000 := by
  rcases hm with rfl | rfl | rfl | rfl | rfl | rfl <;> decide
theorem SetG.search (R : SetG P w s.heap a L es ep t) {x : Addr} {k : List Int} (hx : IsT P w s.heap k x) (hu : A.units < cLine) {Q : SetFound → Shared → Prop}
    (hin : k ∈ L.map (·.2) → Q (.there none) s)
    (hout : ∀ K, k ∉ L.map (·.2) → L2.way t.mask (thash P w k) K ∉ t.place.toList → Filled t.mask t.place.toList (thash P w k) K → Q (.free (L2.way t.mask (thash P w k) K) false) s) :
    wpAny (model P w) A (setSearch a (.ref x) (thash P w k) true) Q E s := by
  have hroom := R.room
  obtain ⟨K, hKf, hK, hf⟩ := R.tab.gap (by rw [List.length_map]; omega) (thash P w k)
  have hb := R.tab.mok.turns
  unfold setSearch
  refine R.seek hx hu hKf hK hf hin (fun z => hout K z hK hf) 100000 0 none rfl (Nat.zero_le _) (by omega) fun i p hp e => ?_
  have hi : (L.map fun p => thash P w p.2)[i]? = some (thash P w k) := by rw [List.getElem?_map, hp, ← e]; rfl
  have hil : i < t.place.toList.length := by
    rw [R.tab.len]
    exact (List.getElem?_eq_some_iff.mp hi).1
  obtain ⟨q, hq, e2⟩ := R.tab.ahead hK hi (List.getElem?_eq_getElem hil)
  exact ⟨q, Nat.zero_le _, hq, by rw [List.getElem?_eq_getElem hil, e2]⟩
end
end G


set_option maxHeartbeats 4000000
namespace G
open PySem PySem.Spec PyProof.Rows L2

theorem grow5 : SetTable.sizeAbove (SetTable.grown 5) = 32 := by decide +kernel
theorem grow19 : SetTable.sizeAbove (SetTable.grown 19) = 128 := by decide +kernel
theorem grow77 : SetTable.sizeAbove (SetTable.grown 77) = 512 := by decide +kernel
theorem grow307 : SetTable.sizeAbove (SetTable.grown 307) = 2048 := by decide +kernel
theorem grow1229 : SetTable.sizeAbove (SetTable.grown 1229) = 8192 := by decide +kernel
/-- as many as a set may get here -/
abbrev manyS : Nat := 4000
/-- how many different keys -/
def dn (ks : List (List Int)) : Nat := (dd ks).length
theorem len_sub {α : Type} [DecidableEq α] : ∀ {l m : List α}, l.Nodup → (∀ x ∈ l, x ∈ m) → l.length ≤ m.length
  | [], _, _, _ => Nat.zero_le _
  | a :: l, m, hn, h => by
    have hn2 := List.nodup_cons.mp hn
    have ha := h a (List.mem_cons_self ..)
    have := len_sub (l := l) (m := m.erase a) hn2.2 fun x hx => (List.mem_erase_of_ne (fun e => by subst e; exact hn2.1 hx)).mpr (h x (List.mem_cons_of_mem _ hx))
    rw [List.length_erase_of_mem ha] at this
    have hp : 0 < m.length := List.length_pos_of_mem ha
    rw [List.length_cons]
    omega
theorem dn_le {L ks : List (Addr × List Int)} (hn : (L.map (·.2)).Nodup) (h : ∀ q ∈ L, q ∈ ks) : L.length ≤ dn (ks.map (·.2)) := by
  unfold dn
  rw [← List.length_map (f := (·.2))]
  refine len_sub hn fun x hx => ?_
  obtain ⟨q, hq, rfl⟩ := List.mem_map.mp hx
  exact mem_dd.mpr (List.mem_map.mpr ⟨q, h q hq, rfl⟩)
theorem dn_lt {L ks : List (Addr × List Int)} (hn : (L.map (·.2)).Nodup) (h : ∀ q ∈ L, q ∈ ks) {p : Addr × List Int} (hp : p ∈ ks) (hm : p.2 ∉ L.map (·.2)) : L.length < dn (ks.map (·.2)) :=
  dn_le (L := p :: L) (by rw [List.map_cons]; exact List.nodup_cons.mpr ⟨hm, hn⟩) fun q hq => by
    rcases List.mem_cons.mp hq with rfl | hq
    · exact hp
    · exact h q hq
/-- what the table becomes when it is too full -/
theorem grow_of {m n : Nat} (hm : MaskG m) (h1 : n * 5 < m * 3) (h2 : m * 3 ≤ (n + 1) * 5) (h3 : n < manyS) : ∃ M, SetTable.sizeAbove (SetTable.grown (n + 1)) = M + 1 ∧ MaskG M ∧ M ≤ 8191 ∧ (n + 1) * 5 < M * 3 := by
  unfold manyS at h3
  rcases hm with rfl | rfl | rfl | rfl | rfl | rfl
  · obtain rfl : n = 4 := by omega
    exact ⟨31, grow5, .inr (.inl rfl), by omega, by omega⟩
  · obtain rfl : n = 18 := by omega
    exact ⟨127, grow19, .inr (.inr (.inl rfl)), by omega, by omega⟩
  · obtain rfl : n = 76 := by omega
    exact ⟨511, grow77, .inr (.inr (.inr (.inl rfl))), by omega, by omega⟩
  · obtain rfl : n = 306 := by omega
    exact ⟨2047, grow307, .inr (.inr (.inr (.inr (.inl rfl)))), by omega, by omega⟩
  · obtain rfl : n = 1228 := by omega
    exact ⟨8191, grow1229, .inr (.inr (.inr (.inr (.inr rfl)))), by omega, by omega⟩
  · omega
section
variable {P : Program} {w : World} {A : Around} {E : Value → Shared → Prop} {s : Shared}
variable {a : Addr} {L : List (Addr × List Int)} {es : Array (Int × Value)} {ep : Nat} {t : SetTable}
theorem relayG {o : Obj} (ho : s.heap.get? a = some o) (hex : o.ExactSet) (hd : o.data = .set es ep t) (hrows : es.toList = rowsOf P w L) (T : TabG t (L.map fun p => thash P w p.2)) (hfl : L.length ≤ t.mask)
    (nd : (L.map (·.2)).Nodup) (tups : ∀ p ∈ L, IsT P w s.heap p.2 p.1) (pl : t.plain = true) (ld : w.params.followText "set-order" = true ∨ t.led = true) {wanted M : Nat}
    (hw : SetTable.sizeAbove wanted = M + 1) (hM : MaskG M) (hM2 : M ≤ 8191) (hn : L.length * 5 < M * 3) {Q : Unit → Shared → Prop}
    (hQ : ∀ h' L' es' ep' t', Heap.SameBut a s.heap h' → SetG P w h' a L' es' ep' t' → L'.Perm L → Q () { s with heap := h' }) : wpAny (model P w) A (setRelay a wanted) Q E s := by
  have hsz := rows_size hrows
  obtain ⟨t', order, e, hp, T', em, el, epl⟩ := hM.relaid t (hs := es.map (·.1)) (wanted := wanted) (by omega) (by rw [Array.size_map]; omega)
  rw [Array.size_map, hsz] at hp
  obtain ⟨L2, r1, r2, r3⟩ := order_rows L es order hrows hp
  rw [← r3] at T'
  have hs2 := rows_size r1
  have hl2 := r2.length_eq
  rw [setRelay_eq]
  refine wpAny_bind (wpAny_setState_of ho hd (tab_fits T (by rw [hsz, List.length_map]) (by omega)) ?_)
  dsimp only
  refine wp_if_neg (by rw [hw, sizeLine_eq]; omega) ?_
  try refine wpAny_bind (wpAny_pure ?_)
  rw [e]
  dsimp only
  refine wpAny_bind ?_
  refine wp_if_neg (by rw [hs2, hl2, hsz]; simp) ?_
  try refine wpAny_bind (wpAny_pure ?_)
  refine wpAny_pure ?_
  dsimp only
  refine wpAny_storeSet_of ho hd ?_ (by rw [hs2, hl2, sizeLine_eq]; omega)
  have sb : Heap.SameBut a s.heap (s.heap.update a (Obj.putSet (order.filterMap (es[·]?)) t')) := Heap.SameBut.update ..
  refine hQ _ L2 _ (ep + 1) t' sb ⟨⟨_, store_at ho hd, ⟨hex.1, hex.2.1, hex.2.2⟩, rfl⟩, r1, T', (r2.map (·.2)).nodup_iff.mpr nd, fun p hpm => isT_same (tups p (r2.mem_iff.mp hpm)) ho hd sb, epl.trans pl, ?_, by rw [hl2, em]; exact hn⟩ r2
  rw [el]
  exact ld
theorem SetG.add (R : SetG P w s.heap a L es ep t) {x : Addr} {k : List Int} (hx : IsT P w s.heap k x) (hu : A.units < cLine) (hfew : k ∉ L.map (·.2) → L.length < manyS) {Q : Bool → Shared → Prop}
    (hQ : ∀ b h' L' es' ep' t', Heap.SameBut a s.heap h' → SetG P w h' a L' es' ep' t' → (k ∈ L.map (·.2) → L' = L) → (k ∉ L.map (·.2) → L'.Perm ((x, k) :: L)) → Q b { s with heap := h' }) :
    wpAny (model P w) A (setAddHashed a (.ref x) (thash P w k)) Q E s := by
  obtain ⟨o, ho, hex, hd⟩ := R.obj
  have hsz := rows_size R.rows
  have hroom := R.room
  unfold setAddHashed
  refine wpAny_holding ?_
  rw [show (100000 : Nat) = 99999 + 1 from rfl, setAddHashedIn_succ]
  refine wpAny_bind (wpAny_setState_of ho hd R.fits ?_)
  dsimp only
  refine wp_if_neg (by simp [byScan, Value.scannable]) ?_
  try refine wpAny_bind (wpAny_pure ?_)
  refine wpAny_bind (R.search hx hu (fun hm => ?_) fun K hm hK hf => ?_)
  · dsimp only
    exact wpAny_pure (hQ false s.heap L es ep t (Heap.SameBut.refl a s.heap) R (fun _ => rfl) fun z => absurd hm z)
  have hfew := hfew hm
  dsimp only
  refine wpAny_bind (wpAny_setState_of ho hd R.fits ?_)
  dsimp only
  obtain ⟨p, hp⟩ : ∃ p, p = SetTable.below t.place (L2.way t.mask (thash P w k) K) := ⟨_, rfl⟩
  obtain ⟨_, T1, hfill⟩ := R.tab.add hK hf p hp
  have m1 : (t.put (L2.way t.mask (thash P w k) K)).1.mask = t.mask := rfl
  have d1 : (t.put (L2.way t.mask (thash P w k) K)).1.led = t.led := rfl
  have p1 : (t.put (L2.way t.mask (thash P w k) K)).1.plain = true := R.plain
  have e2 : (t.put (L2.way t.mask (thash P w k) K)).2 = p := hp.symm
  generalize t.put (L2.way t.mask (thash P w k) K) = pt at T1 hfill m1 d1 p1 e2 ⊢
  obtain ⟨t1, p0⟩ := pt
  dsimp only at T1 hfill m1 d1 p1 e2 ⊢
  subst e2
  have pm := put_perm L p0 (x, k)
  have hr1 : (SetTable.insertAt es p0 (thash P w k, Value.ref x)).toList = rowsOf P w (L.take p0 ++ (x, k) :: L.drop p0) := by rw [SetTable.toList_insertAt, rows_put, R.rows]
  have hT1 : (L.map fun p => thash P w p.2).take p0 ++ thash P w k :: (L.map fun p => thash P w p.2).drop p0 = (L.take p0 ++ (x, k) :: L.drop p0).map fun p => thash P w p.2 := by
    rw [List.map_append, List.map_cons, List.map_take, List.map_drop]
  rw [hT1] at T1
  rw [List.length_map] at hfill
  generalize SetTable.insertAt es p0 (thash P w k, Value.ref x) = es1 at hr1 ⊢
  generalize L.take p0 ++ (x, k) :: L.drop p0 = L1 at pm T1 hr1
  have hl1 : L1.length = L.length + 1 := pm.length_eq
  have hs1 := rows_size hr1
  have nd1 : (L1.map (·.2)).Nodup := (pm.map (·.2)).nodup_iff.mpr (List.nodup_cons.mpr ⟨hm, R.nd⟩)
  first
    | (refine wpAny_bind ?_; refine wp_if_pos p1 ?_; refine hashBy_tup hx ?_)
    | refine wp_if_pos p1 (wpAny_bind (hashBy_tup hx ?_))
  simp only [if_true]
  refine wpAny_bind (wpAny_storeSet_of ho hd ?_ (by rw [hs1, hl1, sizeLine_eq]; unfold manyS at hfew; omega))
  have sb : Heap.SameBut a s.heap (s.heap.update a (Obj.putSet es1 t1)) := Heap.SameBut.update ..
  have ho1 := store_at (es' := es1) (t' := t1) ho hd
  generalize s.heap.update a (Obj.putSet es1 t1) = h1 at sb ho1 ⊢
  have tups1 : ∀ q ∈ L1, IsT P w h1 q.2 q.1 := fun q hq => by
    rcases List.mem_cons.mp (pm.mem_iff.mp hq) with rfl | z
    · exact isT_same hx ho hd sb
    · exact isT_same (R.tups q z) ho hd sb
  have ld1 : w.params.followText "set-order" = true ∨ t1.led = true := by rw [d1]; exact R.led
  by_cases hfull : t1.tooFull = true
  · first
      | (refine wpAny_bind ?_; refine wp_if_pos (by simp [hfull]) ?_)
      | (refine wp_if_pos (by simp [hfull]) ?_; refine wpAny_bind ?_)
    have h2 := hfull
    unfold SetTable.tooFull at h2
    rw [decide_eq_true_eq, hfill, m1] at h2
    obtain ⟨M, g1, g2, g3, g4⟩ := grow_of R.tab.mok hroom h2 hfew
    rw [hsz]
    refine relayG (s := { s with heap := h1 }) ho1 ⟨hex.1, hex.2.1, hex.2.2⟩ rfl hr1 T1 (by rw [hl1, m1]; rcases R.tab.mok with e | e | e | e | e | e <;> omega) nd1 tups1 p1 ld1 g1 g2 g3 (by rw [hl1]; exact g4) fun h2 L2 es2 ep2 t2 sb2 R2 pm2 => ?_
    exact wpAny_pure (hQ true h2 L2 es2 ep2 t2 (sb.trans sb2) R2 (fun z => absurd z hm) fun _ => pm2.trans pm)
  · first
      | refine wp_if_neg (by simp [hfull]) ?_
      | (refine wpAny_bind ?_; refine wp_if_neg (by simp [hfull]) ?_; refine wpAny_pure ?_)
    have h2 := hfull
    unfold SetTable.tooFull at h2
    rw [decide_eq_true_eq, hfill, m1] at h2
    exact wpAny_pure (hQ true h1 L1 es1 (ep + 1) t1 sb ⟨⟨_, ho1, ⟨hex.1, hex.2.1, hex.2.2⟩, rfl⟩, hr1, T1, nd1, tups1, p1, ld1, by rw [hl1, m1]; omega⟩ (fun z => absurd z hm) fun _ => pm)
end
end G


set_option maxHeartbeats 4000000
namespace G
open PySem PySem.Spec PyProof.Rows L2

section
variable {P : Program} {w : World} {A : Around} {E : Value → Shared → Prop} {s : Shared}
theorem SetG.keep {h h' : Heap} {a : Addr} {L : List (Addr × List Int)} {es : Array (Int × Value)} {ep : Nat} {t : SetTable} (R : SetG P w h a L es ep t) (ha : ∀ o, h.get? a = some o → h'.get? a = some o) (ht : ∀ p ∈ L, IsT P w h' p.2 p.1) : SetG P w h' a L es ep t :=
  let ⟨o, ho, r⟩ := R.obj
  ⟨⟨o, ha o ho, r⟩, R.rows, R.tab, R.nd, ht, R.plain, R.led, R.room⟩
theorem SetG.new {h : Heap} {a : Addr} (ho : h.get? a = some (set0 w)) : SetG P w h a [] #[] 0 (.fresh 0 0 (!w.params.followText "set-order")) where
  obj := ⟨_, ho, ⟨rfl, rfl, rfl⟩, rfl⟩
  rows := rfl
  tab := ⟨.inl rfl, List.Pairwise.nil, rfl, rfl, fun i h j hi => by simp at hi⟩
  nd := List.nodup_nil
  tups := fun p hp => by cases hp
  plain := rfl
  led := by
    show _ ∨ (!w.params.followText "set-order") = true
    cases w.params.followText "set-order"
    · exact .inr rfl
    · exact .inl rfl
  room := by
    show 0 * 5 < 7 * 3
    decide
/-- the loop that fills the set -/
theorem fillG {I : Addr} {fp wr : List Addr} {G : Array GenState → Array GenState → Prop} {n : Nat} {Pv : Nat → Value → Prop} {St : Nat → Shared → Prop} {R : Result → Shared → Prop}
    (W : WalksS P w A.in1 I fp wr G n Pv St) (S : Addr) (hSf : S ∉ fp) (ks : List (Addr × List Int)) (hn : n = ks.length) (hfew : dn (ks.map (·.2)) ≤ manyS) (hval : ∀ i v, Pv i v → ∃ p, ks[i]? = some p ∧ v = .ref p.1)
    (h0 : Heap) (hk : ∀ p ∈ ks, IsT P w h0 p.2 p.1) (hS0 : h0.get? S = none) (hw0 : ∀ b ∈ wr, h0.get? b = none) (hu : A.in1.units < cLine) :
    ∀ (d i : Nat) (s : Shared), i + d = n → St i s → (∀ b o, h0.get? b = some o → s.heap.get? b = some o) → (∃ L es ep t, SetG P w s.heap S L es ep t ∧ Got ks i L) →
      (∀ s' L es ep t, Moved (S :: wr) G s s' → SetG P w s'.heap S L es ep t → Got ks n L → (∀ b o, h0.get? b = some o → s'.heap.get? b = some o) → R (.ok (.ret .none)) s') →
      codeAny (model P w) A (.builtin "set.update.loop" ⟨[.ref S, .ref I], []⟩) R s := by
  have out : S ∉ wr := fun z => hSf (W.sub _ z)
  have wide : ∀ b ∈ wr, b ∈ S :: wr := fun b hb => List.mem_cons_of_mem _ hb
  have old : ∀ {s s' : Shared}, Moved wr G s s' → (∀ b o, h0.get? b = some o → s.heap.get? b = some o) → ∀ b o, h0.get? b = some o → s'.heap.get? b = some o := fun m k b o e =>
    m.heap b o (fun z => by rw [hw0 b z] at e; cases e) (k b o e)
  have stay : ∀ {s s' : Shared} {L es ep t i}, Moved wr G s s' → SetG P w s.heap S L es ep t → Got ks i L → (∀ b o, h0.get? b = some o → s'.heap.get? b = some o) → SetG P w s'.heap S L es ep t := fun m R g k =>
    R.keep (fun o e => m.heap S o out e) fun p hp => isT_keep (hk p (List.mem_of_mem_take (g.sub p hp))) k
  intro d
  induction d with
  | zero =>
    rintro i s rfl hst hkp ⟨L, es, ep, t, hS, g⟩ hR
    refine codeAny_builtin F.entry_set_update_loop ?_
    rw [Around.under_plainId F.plain_set_update_loop _]
    show wpAny _ A.in1 (pyNext (.ref I) >>= _) _ _ s
    refine wpAny_bind (W.done s _ _ hst fun s' m => ?_)
    have k := old m hkp
    exact wpAny_pure (hR s' L es ep t (m.mono wide) (stay m hS g k) g k)
  | succ d ih =>
    intro i s hi hst hkp hset hR
    obtain ⟨L, es, ep, t, hS, g⟩ := hset
    have hlt : i < n := by omega
    refine codeAny_builtin F.entry_set_update_loop ?_
    rw [Around.under_plainId F.plain_set_update_loop _]
    show wpAny _ A.in1 (pyNext (.ref I) >>= _) _ _ s
    refine wpAny_bind (W.item i s _ _ hlt hst fun v s' pv hst' m => ?_)
    obtain ⟨p, hp, rfl⟩ := hval i v pv
    have k := old m hkp
    have hx : IsT P w s'.heap p.2 p.1 := isT_keep (hk p (List.mem_of_getElem? hp)) k
    show wpAny _ A.in1 (holding [Value.ref p.1] (setAdd S (.ref p.1)) >>= _) _ _ s'
    refine wpAny_bind (wpAny_holding ?_)
    unfold setAdd
    refine wpAny_holding ?_
    refine wpAny_bind (wpAny_pyHash_tuple hu hx ?_)
    refine (stay m hS g k).add (s := { s' with toks := s'.toks + (p.2.length + 1) }) hx hu (fun z => Nat.lt_of_lt_of_le (dn_lt hS.nd (fun q hq => List.mem_of_mem_take (g.sub q hq)) (List.mem_of_getElem? hp) z) hfew) fun b h1 L1 es1 ep1 t1 sb hS1 c1 c2 => ?_
    have g1 : Got ks (i + 1) L1 := by
      by_cases c : p.2 ∈ L.map (·.2)
      · rw [c1 c]
        exact g.same hp c
      · exact g.more hp (c2 c)
    have k1 : ∀ b o, h0.get? b = some o → h1.get? b = some o := fun b o e => (sb.2 b fun z => by rw [z, hS0] at e; cases e).trans (k b o e)
    refine wpAny_pure ⟨plainId_quiet F.plain_set_update_loop _, ih (i + 1) _ (by omega) (W.frame _ s' _ _ hst' (Nat.le_add_right _ _) fun b hb o e => ?_) k1 ⟨L1, es1, ep1, t1, hS1, g1⟩ fun s2 L2 es2 ep2 t2 m2 hS2 g2 k2 => ?_⟩
    · rw [sb.2 b fun z : b = S => hSf (z ▸ hb)]
      exact e
    · refine hR s2 L2 es2 ep2 t2 (Moved.trans W.gtrans ((m.mono wide).then_heap (Nat.le_add_right _ _) fun b o hb e => ?_) m2) hS2 g2 k2
      rw [sb.2 b fun z : b = S => hb (z ▸ List.mem_cons_self)]
      exact e
/-- set(xs) of int tuples -/
theorem set_listG {l : Addr} {items : Array Value} (ks : List (Addr × List Int)) {Q : Value → Shared → Prop} (hh : A.handled = none) (hl : s.heap.IsList l items) (hit : items.toList = ks.map fun p => Value.ref p.1)
    (hk : ∀ p ∈ ks, IsT P w s.heap p.2 p.1) (hfew : dn (ks.map (·.2)) ≤ manyS) (hu : A.units + 10 < cLine)
    (h : ∀ (h' : Heap) (tk : Nat) L es ep t, SetG P w h' s.heap.objs.size L es ep t → Got ks ks.length L → (∀ b o, s.heap.get? b = some o → h'.get? b = some o) → Q (.ref s.heap.objs.size) { s with heap := h', toks := tk }) :
    wpAny (model P w) A (call (.type "set") [.ref l]) Q E s := by
  have hisz : items.size = ks.length := by
    have q := congrArg List.length hit
    rw [Array.length_toList, List.length_map] at q
    exact q
  have hlS : l < s.heap.objs.size := by
    obtain ⟨ol, hol, _⟩ := hl
    exact Heap.lt_size hol
  have hz : (s.heap.push (set0 w)).objs.size = s.heap.objs.size + 1 := Heap.size_push ..
  have hS : (s.heap.push (set0 w)).get? s.heap.objs.size = some (set0 w) := Heap.get?_push_size _ rfl
  have hl1 : (s.heap.push (set0 w)).IsList l items := hl.push _
  have hh3 : A.in1.in1.in1.handled = none := by simp [hh]
  have none_of : ∀ b, s.heap.objs.size ≤ b → s.heap.get? b = none := fun b hb => by
    cases q : s.heap.get? b with
    | none => rfl
    | some o => exact absurd (Nat.lt_of_lt_of_le (Heap.lt_size q) hb) (Nat.lt_irrefl _)
  have hun : A.in1.in1.in1.units < cLine := by
    show A.units + 1 + 1 + 1 < cLine
    omega
  refine set_shell (R := fun h' tk => ∃ L es ep t, SetG P w h' s.heap.objs.size L es ep t ∧ Got ks ks.length L ∧ ∀ b o, s.heap.get? b = some o → h'.get? b = some o) hl ?_ fun h' tk ⟨L, es, ep, t, k1, k2, k3⟩ => h h' tk L es ep t k1 k2 k3
  refine fillG ((Walks.list hh3 _ l (by rw [hz]; exact Nat.ne_of_lt (Nat.lt_succ_of_lt hlS)) items).toS) s.heap.objs.size ?_ ks hisz hfew (fun i v hv => ?_) s.heap hk (none_of _ (Nat.le_refl _)) (fun b hb => none_of b ?_) hun items.size 0 _ (Nat.zero_add _) ⟨⟨_, Heap.get?_push_size _ rfl, rfl, rfl⟩, hl1.push _⟩ (fun b o e => Heap.get?_push_of_some _ (Heap.get?_push_of_some _ e)) ⟨[], #[], 0, _, SetG.new (Heap.get?_push_of_some _ hS), Got.zero ks⟩ fun s' L es ep t hm hS' g k => ?_
  · rw [hz]
    simp only [List.mem_cons, List.not_mem_nil, or_false, not_or]
    exact ⟨Nat.ne_of_lt (Nat.lt_succ_self _), Nat.ne_of_gt hlS⟩
  · have q : items.toList[i]? = some v := by rw [Array.getElem?_toList]; exact hv
    rw [hit, List.getElem?_map] at q
    obtain ⟨p, hp, e⟩ := Option.map_eq_some_iff.mp q
    exact ⟨p, hp, e.symm⟩
  · have hb' := hb
    simp only [List.mem_cons, List.not_mem_nil, or_false] at hb'
    rw [hb', hz]
    exact Nat.le_succ _
  · obtain ⟨h', g2, d', tk', os'⟩ := s'
    have eg : g2 = s.gens := hm.gens
    have ed : d' = s.drawn := hm.drawn
    have eo : os' = s.os := hm.os
    subst eg; subst ed; subst eo
    rw [hisz] at g
    exact ⟨rfl, h', tk', rfl, L, es, ep, t, hS', g, k⟩
end
end G


set_option maxHeartbeats 4000000
namespace G
open PySem PySem.Spec PyProof.Rows L2

section
variable {P : Program} {w : World} {A : Around} {E : Value → Shared → Prop} {s : Shared}
theorem sorted_setG {a : Addr} {L : List (Addr × List Int)} {es : Array (Int × Value)} {ep : Nat} {t : SetTable} {Q : Value → Shared → Prop} (R : SetG P w s.heap a L es ep t) (hfew : L.length ≤ manyS) (hh : A.handled = none) (hne : ∀ p ∈ L, p.2 ≠ []) (hu : A.units + 100 < cLine)
    (hQ : ∀ s' p (c : Nat) (L1 : List (Addr × List Int)), (∀ b o, s.heap.get? b = some o → s'.heap.get? b = some o) → s'.gens = s.gens → s'.os = s.os → s.heap.objs.size ≤ p → L1.Perm L →
      s'.heap.get? p = some (seqObj "list" ((L1.mergeSort (PySem.W.dataLe false tupD)).map fun q => Value.ref q.1).toArray c) → Q (.ref p) s') :
    wpAny (model P w) A (call (.builtin "sorted") [.ref a]) Q E s := by
  obtain ⟨o, ho, hex, hd⟩ := R.obj
  have hsz := rows_size R.rows
  refine Calls.call_function_entry PyProof.Rows.kind_sorted PyProof.Rows.plain_sorted PyProof.Rows.entry_sorted (PyProof.Rows.args_sorted1 _) ?_
  unfold Builtin.«sorted»
  refine wpAny_bind (m := checkCount "sorted" 1 1 _) (wpAny_pure ?_)
  refine wpAny_bind (collect_set (A := A.in1) hh ⟨o, ho, hex.1, hd⟩ R.fits (by unfold scanBound; unfold manyS at hfew; omega) R.tab.ris R.led fun s1 vs k1 hz g1 o1 pm => ?_)
  have hes : es.toList.map (·.2) = L.map fun q => Value.ref q.1 := by
    rw [R.rows]
    unfold rowsOf
    rw [List.map_map] <;> rfl
  rw [hes] at pm
  have one : ∀ q ∈ L, ∀ r ∈ L, q.1 = r.1 → q = r := fun q hq r hr e => by
    have a1 := R.tups q hq
    have a2 := R.tups r hr
    rw [e] at a1
    exact Prod.ext e (a1.inj a2)
  obtain ⟨L1, e1, hs1⟩ := refs_row (L := L) (vs := vs) fun v hv => by
    obtain ⟨q, hq, e⟩ := List.mem_map.mp (pm.mem_iff.mp hv)
    exact ⟨q, hq, e.symm⟩
  subst e1
  have p1 : L1.Perm L := row_perm R.nd one hs1 pm
  have hvl : (L1.map fun q => Value.ref q.1).length ≤ sizeLine := by rw [List.length_map, p1.length_eq, sizeLine_eq]; unfold manyS at hfew; omega
  refine wpAny_bind (wpAny_newList ?_ hvl)
  have hoL : (s1.heap.push (seqObj "list" (L1.map fun q => Value.ref q.1).toArray 0)).get? s1.heap.objs.size = some (seqObj "list" (L1.map fun q => Value.ref q.1).toArray 0) := Heap.get?_push_size _ rfl
  have tk : ∀ q ∈ L1, TS.TupInts (s1.heap.push (seqObj "list" (L1.map fun q => Value.ref q.1).toArray 0)) (.ref q.1) q.2 := fun q hq => L2.tupInts_of (P := P) (w := w) (isT_keep (R.tups q (hs1 q hq)) fun b u e => Heap.get?_push_of_some _ (k1 b u e))
  rw [List.length_map] at hvl
  refine wpAny_bind (wpAny_holding (PySem.W.list_sort_data (s := { s1 with heap := s1.heap.push (seqObj "list" (L1.map fun q => Value.ref q.1).toArray 0) }) (bs := L1) (enc := tupD) (R := fun (v : Value) (q : Addr × List Int) => v = .ref q.1) hoL (each_refs L1) (each_readsT tk) alike_tups ?_ hvl (fun q hq => ?_) fun out hlen hout => ?_))
  · refine .inl fun d hd => ?_
    obtain ⟨q, hq, rfl⟩ := List.mem_map.mp hd
    cases e : q.2 with
    | nil => exact absurd e (hne q (hs1 q hq))
    | cons x r => exact ⟨.int x, r.map PyData.int, by unfold tupD; rw [e]; rfl⟩
  · have := depth_ints q.2
    have h1 : A.in1.units = A.units + 1 := rfl
    show A.in1.units + 1 + (PyData.depthAll (q.2.map PyData.int) + 1) < cLine
    omega
  · have eo := refs_each hout
    subst eo
    obtain ⟨c, hc⟩ := PyProof.Rows.sortedHeap_at (vs := L1.map fun q => Value.ref q.1) (out := ((L1.mergeSort (PySem.W.dataLe false tupD)).map fun q => Value.ref q.1).toArray) hoL
    refine wpAny_pure ⟨_, rfl, hQ _ s1.heap.objs.size c L1 (fun b u e => ?_) g1 o1 hz p1 hc⟩
    have q := k1 b u e
    have hlt := Heap.lt_size q
    show (PyProof.Rows.sortedHeap (s1.heap.push (seqObj "list" (L1.map fun q => Value.ref q.1).toArray 0)) s1.heap.objs.size (L1.map fun q => Value.ref q.1) _).get? b = some u
    rw [PyProof.Rows.sortedHeap_old (Nat.ne_of_lt hlt) (by rw [size_push']; exact Nat.lt_succ_of_lt hlt)]
    exact Heap.get?_push_of_some _ q
end
/-- the set at a, but for its tuples -/
def SetG0 (P : Program) (w : World) (h : Heap) (a : Addr) (L : List (Addr × List Int)) : Prop :=
  ∃ (es : Array (Int × Value)) (ep : Nat) (t : SetTable), (∃ o, h.get? a = some o ∧ o.ExactSet ∧ o.data = .set es ep t) ∧ es.toList = rowsOf P w L ∧ TabG t (L.map fun p => thash P w p.2) ∧ (L.map (·.2)).Nodup ∧ t.plain = true ∧
    (w.params.followText "set-order" = true ∨ t.led = true) ∧ L.length * 5 < t.mask * 3 ∧ L.length ≤ manyS
def setGO (P : Program) (w : World) (a : Addr) (L : List (Addr × List Int)) : HO := .ext fun h => SetG0 P w h a L
theorem setGO_ok {P : Program} {w : World} {H : Hp} {h : Heap} {a : Addr} {L : List (Addr × List Int)} {es : Array (Int × Value)} {ep : Nat} {t : SetTable} (R : SetG P w h a L es ep t) (hf : L.length ≤ manyS) : ObjOk P w H h a (setGO P w a L) :=
  have ⟨o, ho, _⟩ := R.obj
  ⟨⟨es, ep, t, R.obj, R.rows, R.tab, R.nd, R.plain, R.led, R.room, hf⟩, ⟨o, ho⟩, fun h1 h2 p k =>
    have ⟨es', ep', t', ⟨o', ho', r'⟩, q'⟩ := p
    ⟨es', ep', t', ⟨o', k o' ho', r'⟩, q'⟩⟩
section
variable {X : Cx} {E : EW} {pos : Pos}
def rSetG (K : PySem.W.Frag) (P : Program) (w : World) : List V → Hp → VK → Prop := fun xs H Q => ∃ (l : Addr) (ks : List (Addr × List Int)), xs = [V.ref l] ∧ SqL K H l (ks.map fun p => V.ref p.1) ∧ (∀ p ∈ ks, SqT K H p.1 (p.2.map V.int)) ∧ dn (ks.map (·.2)) ≤ manyS ∧
  ∀ a L, H a = none → (∀ p ∈ L, p ∈ ks) → (∀ p ∈ ks, p.2 ∈ L.map (·.2)) → Q (.ref a) (upd H a (setGO P w a L))
theorem cr_setG (hc : X.calm = true) (hu : X.A.units + 64 < cLine) : CallR X (.type "set") (rSetG X.K X.prog X.w) := by
  intro pins s σ H xs us Q I r h
  obtain ⟨l, ks, rfl, hl, hk, hf, q⟩ := h
  rw [Vals.ref1 r]
  obtain ⟨its, rv, pl, hz⟩ := I.list hl
  have hn : H s.heap.objs.size = none := I.hok.fresh (Nat.le_refl _)
  refine set_listG (P := X.prog) (w := X.w) ks (I.ok.hd hc) pl.isList (by simpa using refs_of_vals rv) (fun p hp => I.isT (hk p hp)) hf (by omega) fun h' tk L es ep t R g k => ?_
  refine ⟨.ref s.heap.objs.size, upd H s.heap.objs.size (setGO X.prog X.w s.heap.objs.size L), I.laid (t' := tk) k (Nat.le_refl _) (setGO_ok R (Nat.le_trans (dn_le R.nd fun q hq => List.mem_of_mem_take (g.sub q hq)) hf)), rfl, q _ L hn (fun p hp => ?_) fun p hp => ?_⟩
  · exact List.mem_of_mem_take (g.sub p hp)
  · exact g.all p (by rw [List.take_length]; exact hp)
def rSortedG (K : PySem.W.Frag) (P : Program) (w : World) : List V → Hp → VK → Prop := fun vs H Q => ∃ (a : Addr) (L : List (Addr × List Int)), vs = [V.ref a] ∧ H a = some (setGO P w a L) ∧ (∀ p ∈ L, SqT K H p.1 (p.2.map V.int)) ∧ (∀ p ∈ L, p.2 ≠ []) ∧
  ∀ (L1 : List (Addr × List Int)) (p : Addr), L1.Perm L → (L.map (·.2)).Nodup → H p = none → Q (.ref p) (upd H p (.lst ((L1.mergeSort (PySem.W.dataLe false tupD)).map fun q => V.ref q.1)))
theorem cr_sortedG (hc : X.calm = true) (hu : X.A.units + 200 < cLine) : CallR X (.builtin "sorted") (rSortedG X.K X.prog X.w) := by
  intro pins s σ H vs us Q I r h
  obtain ⟨a, L, rfl, ha, hk, hne, q⟩ := h
  obtain ⟨es, ep, t, h1, h2, h3, h4, h5, h6, h7, hf⟩ : SetG0 X.prog X.w s.heap a L := (I.hok a _ ha).1
  have R : SetG X.prog X.w s.heap a L es ep t := ⟨h1, h2, h3, h4, fun p hp => I.isT (hk p hp), h5, h6, h7⟩
  rw [Vals.ref1 r]
  refine sorted_setG R hf (I.ok.hd hc) hne (by omega) fun s' p c L1 k g o hp pm hg => ?_
  have hlen : ((L1.mergeSort (PySem.W.dataLe false tupD)).map fun q => V.ref q.1).length ≤ sizeLine := by rw [List.length_map, (List.mergeSort_perm _ _).length_eq, pm.length_eq, sizeLine_eq]; unfold manyS at hf; omega
  have hn : H p = none := I.hok.fresh hp
  have hv : Vals ((L1.mergeSort (PySem.W.dataLe false tupD)).map fun q => V.ref q.1) ((L1.mergeSort (PySem.W.dataLe false tupD)).map fun q => Value.ref q.1) := vals_of_refs _
  have J : Inv X pins σ (upd H p (.lst ((L1.mergeSort (PySem.W.dataLe false tupD)).map fun q => V.ref q.1))) { s with heap := s'.heap, gens := s'.gens, drawn := s'.drawn, toks := s'.toks } :=
    I.call (ch := []) (Un.laid k hp hn) (I.hok.laid k hp ⟨hlen, _, c, hv, hg⟩) (by rw [g]; exact I.bare) (fun _ z => nomatch z)
  have e : s' = { s with heap := s'.heap, gens := s'.gens, drawn := s'.drawn, toks := s'.toks } := by
    cases s'
    cases s
    cases o
    rfl
  rw [e]
  exact ⟨.ref p, _, J, rfl, q L1 p pm R.nd hn⟩
def dSSG (x : D) : Option D := (dItL x).bind fun ds => (keysOf ds).bind fun ks => if dn ks ≤ manyS ∧ (ks.all fun k => !k.isEmpty) = true then some (.lst ((sortK ks).map tupK)) else none
theorem xn_sortedSetG {e : Expr} {te : XV} {p p2 pos2 : Pos} (hc : X.calm = true) (hu : X.A.units + 200 < cLine) (hg : Gl X "sorted") (hm : X.mg "sorted" = none) (hg2 : Gl X "set") (hm2 : X.mg "set" = none) (he : PE X e (lE X.K E te))
    (s1 : starEach [e] X.env = (false, eval e X.env) :: starEach [] X.env := by rfl) (s2 : starEach [.Call (.Name "set" p2) [e] [] pos2] X.env = (false, eval (.Call (.Name "set" p2) [e] [] pos2) X.env) :: starEach [] X.env := by rfl)
    (b1 : (backTo pos2 (starEach [] X.env)).any (·.1) = false := by rfl) (b2 : (backTo pos (starEach [] X.env)).any (·.1) = false := by rfl) :
    PE X (.Call (.Name "sorted" p) [.Call (.Name "set" p2) [e] [] pos2] [] pos) (lN X.K E (xOp1 dSSG te)) := by
  refine pe_imp (pe_callB (cr_sortedG hc hu) hg hm bt_sorted (pa_cons (pe_callTy (cr_setG hc (by omega)) hg2 hm2 bt_set (pa_cons he pa_nil s1) (he := s1) (hpl := b1)) pa_nil s2) (he := s2) (hpl := b2)) fun σ H Q h => ?_
  obtain ⟨F, ρ, r, p⟩ := h
  refine ⟨F, ρ, r, (Pend.bind r p).mono fun x ρ1 F1 H1 g1 q v rv => ?_⟩
  obtain ⟨d, ed, q2⟩ := q.lift
  have o := outN_of r g1 q2
  unfold dSSG at ed
  cases q5 : dItL x with
  | none => rw [q5] at ed; cases ed
  | some ds =>
    rw [q5] at ed
    simp only [Option.bind_some] at ed
    cases q6 : keysOf ds with
    | none => rw [q6] at ed; cases ed
    | some ks =>
      rw [q6] at ed
      simp only [Option.bind_some] at ed
      split at ed
      · rename_i hz
        cases ed
        obtain ⟨l, xs, rfl, hs, rs⟩ := dItL_of q5 rv
        obtain ⟨M, rfl, em, hM⟩ := rows_of rs q6
        have ex := g1.rel.ex
        refine ⟨l, M, rfl, ex.seq hs, fun p hp => SqT.of (ex _ _ (hM p hp)), by rw [em]; exact hz.1, fun a L ha hsub hcov => ?_⟩
        have hL : ∀ p ∈ L, F1 p.1 = some (.tup (p.2.map V.int)) := fun p hp => hM p (hsub p hp)
        have nea : ∀ b u, H1 b = some u → b ≠ a := fun b u h e => by subst e; rw [ha] at h; cases h
        refine ⟨a, L, rfl, upd_same, fun p hp => SqT.of (by rw [upd_ne (nea _ _ (ex _ _ (hL p hp)))]; exact ex _ _ (hL p hp)), fun p hp e => ?_, fun L1 b pm nd hb => ?_⟩
        · have := List.all_eq_true.mp hz.2 p.2 (by rw [← em]; exact List.mem_map.mpr ⟨p, hsub p hp, rfl⟩)
          rw [e] at this
          cases this
        · have hba : b ≠ a := fun e => by subst e; rw [upd_same] at hb; cases hb
          rw [upd_ne hba] at hb
          have hF : F1 b = none := ex.free hb
          have keep : ∀ c u, H1 c = some u → upd (upd H1 a (setGO X.prog X.w a L)) b (.lst ((L1.mergeSort (PySem.W.dataLe false tupD)).map fun q => V.ref q.1)) c = some u := fun c u hcu => by
            rw [upd_ne (ne_of_none hcu hb), upd_ne (nea c u hcu)]
            exact hcu
          refine o b (.lst ((L1.mergeSort (PySem.W.dataLe false tupD)).map fun q => V.ref q.1)) F1 _ ⟨Same.refl F1, keep, fun c u h => keep c u (ex c u h), fun _ _ _ _ h => h⟩ hb hF upd_same (.lst ?_)
          have e1 : (L1.mergeSort (PySem.W.dataLe false tupD)).map (·.2) = sortK ks := by
            rw [sort_rows]
            unfold sortK
            refine isortB_cong leK_total leK_anti ?_
            refine (pm.map _).trans ((List.perm_ext_iff_of_nodup nd (nodup_dd ks)).mpr fun k => ?_)
            rw [mem_dd, ← em]
            constructor
            · intro hk
              obtain ⟨p, hp, rfl⟩ := List.mem_map.mp hk
              exact List.mem_map.mpr ⟨p, hsub p hp, rfl⟩
            · intro hk
              obtain ⟨p, hp, rfl⟩ := List.mem_map.mp hk
              exact hcov p hp
          rw [← e1]
          exact rows_back fun p hp => hL p (pm.mem_iff.mp ((List.mergeSort_perm _ _).mem_iff.mp hp))
      · cases ed
end
def ddS (cs : List (Int × Int)) : List (Int × Int) := sortE (dd cs)
def k2 (p : Int × Int) : List Int := [p.1, p.2]
theorem keysOf_cells (cs : List (Int × Int)) : keysOf (cs.map cellP) = some (cs.map k2) := by
  induction cs with
  | nil => rfl
  | cons p cs ih =>
    rw [List.map_cons]
    unfold keysOf
    rw [ih]
    rfl
theorem dd_map {α β : Type} [DecidableEq α] [DecidableEq β] (f : α → β) (hf : ∀ a b, f a = f b → a = b) : ∀ l : List α, dd (l.map f) = (dd l).map f
  | [] => rfl
  | a :: l => by
    have e : f a ∈ l.map f ↔ a ∈ l := ⟨fun h => by
      obtain ⟨b, hb, e⟩ := List.mem_map.mp h
      exact hf _ _ e ▸ hb, fun h => List.mem_map.mpr ⟨a, h, rfl⟩⟩
    rw [List.map_cons]
    unfold dd
    by_cases h : a ∈ l
    · rw [if_pos (e.mpr h), if_pos h, dd_map f hf l]
    · rw [if_neg (fun z => h (e.mp z)), if_neg h, List.map_cons, dd_map f hf l]
theorem leK_k2 (p q : Int × Int) : leK (k2 p) (k2 q) = leE p q := by
  unfold leK leE
  rfl
theorem dSSG_cells (cs : List (Int × Int)) (h : cs.length ≤ manyS) : dSSG (.lst (cs.map cellP)) = some (.lst ((ddS cs).map cellP)) := by
  unfold dSSG
  show (keysOf (cs.map cellP)).bind _ = _
  rw [keysOf_cells]
  simp only [Option.bind_some]
  rw [if_pos ⟨Nat.le_trans (dd_le (cs.map k2)) (by rw [List.length_map]; exact h), by simp [k2]⟩]
  unfold sortK ddS
  rw [dd_map k2 (fun a b e => by
    unfold k2 at e
    injection e with e1 e2
    injection e2 with e2
    exact Prod.ext e1 e2)]
  rw [isortB_map (le2 := leE) k2 leK_k2, List.map_map]
  rfl
theorem mem_ddS {p : Int × Int} {cs : List (Int × Int)} : p ∈ ddS cs ↔ p ∈ cs := by
  unfold ddS
  rw [mem_sortE, mem_dd]
end G


set_option maxHeartbeats 4000000
namespace G
open PySem PySem.Spec PyProof.Rows L2
local macro_rules | `(tactic| simp! [$ls,*] $[$loc:location]?) => `(tactic| simp only [zaa, zab, zac, zad, zae, zaf, zag, zah, zai, zaj, zak, zal, zam, zan, zao, zap, zaq, zar, zas, zat, zau, zav, zaw, zax, zay, zaz, zaA, zaB, zaC, zaD, zaE, zaF, zaG, zaH, zaI, zaJ, zaK, zaL, zaM, zaN, zaO, zaP, zaQ, zaR, zaS, zaT, zaU, zaV, zaW, zaX, zaY, zaZ, zba, zbb, zbc, zbd, zbe, zbf, zbg, zbh, zbi, zbj, zbk, zbl, zbm, zbn, zbo, zbp, zbq, zbr, zbs, zbt, zbu, zbv, zbw, zbx, zby, zbz, zbA, zbB, zbC, zbD, zbE, zbF, zbG, zbH, zbI, zbJ, zbK, zbL, zbM, zbN, zbO, zbP, zbQ, zbR, zbS, zbT, zbU, zbV, zbW, zbX, zbY, zbZ, zca, zcb, zcc, zcd, zce, zcf, zcg, zch, zci, zcj, zck, zcl, zcm, zcn, zco, zcp, zcq, zcr, zcs, zct, zcu, zcv, zcw, zcx, zcy, zcz, zcA, zcB, zcC, zcD, zcE, zcF, zcG, zcH, zcI, zcJ, zcK, zcL, zcM, zcN, zcO, zcP, zcQ, zcR, zcS, zcT, zcU, zcV, zcW, zcX, zcY, zcZ, zda, zdb, zdc, zdd, zde, zdf, zdg, zdh, zdi, zdj, zdk, zdl, zdm, zdn, zdo, zdp, zdq, zdr, zds, zdt, zdu, zdv, zdw, zdx, zdy, zdz, zdA, zdB, zdC, zdD, zdE, zdF, zdG, zdH, zdI, zdJ, zdK, zdL, zdM, zdN, zdO, zdP, zdQ, zdR, zdS, zdT, zdU, zdV, G.of_f, G.of_t, zdW, zdX, zdY, zdZ, zea, zeb, zec, zed, zee, zef, zeg, zeh, zei, zej, zek, zel, zem, zen, zeo, zep, zeq, zer, zes, zet, zeu, zev, zew, zex, zey, zez, zeA, zeB, zeC, zeD, zeE, zeH, zeI, zeJ, zeK, zeL, zeM, zeN, zeO, zeX, zeY, zeZ, zfa, zfb, zfc, G.sz_1, G.sz_2, G.sz_3, G.sz_4, G.sz_0, zfd, zfk, zfl, zfm, zfv, zfw, G.nc_0, G.nc_1, G.nc_2, G.nc_3, G.nc_4, G.nc_5, G.nc_6, G.nc_7, G.nc_8, G.nc_9, zfx, zfy, zfz, zfA, zfB, zfC, zfD, zfE, zfF, zfG, zfH, zfK, zfL, zfM, zfN, zfO, zgc, zgd, zge, zgf, zgg, zgh, zgi, zgj, zgk, zgl, zgm, zgn, zgo, zgp, zgq, zgr, zgs, zgt, zgu, zgv, zgw, zgx, zgy, zgz, zgA, zgB, zgC, zgD, zgE, zgF, zgG, zgH, zgI, zgJ, zgK, zgL, zgM, zgN, zgO, zgP, zgQ, zgR, zgU, zgV, zgW, zhi, zhj, zhk, zhn, zho, List.getElem?_cons_zero, List.getElem?_cons_succ, List.set_cons_zero, List.set_cons_succ, G.atI_0, G.atI_1, G.atI_2, G.atI_3, Option.map_some, Option.bind_some, G.eqD_int, G.eqD_cell, G.eqD_bl, List.length_cons, List.length_nil, List.getD_cons_zero, List.getD_cons_succ, Bool.and_true, Bool.and_self, decide_true, decide_false, Bool.not_true, Bool.not_false, List.append_nil, List.nil_append, List.cons_append, if_true, if_false, Bool.false_eq_true, reduceIte, Int.reduceLT, Int.reduceLE, Int.reduceToNat, Int.reducePow, Int.reduceNeg, Int.reduceAdd, Int.reduceSub, Int.reduceMul, Nat.reduceAdd, Int.reduceEq, List.replicate, Nat.reduceSub, and_self, and_true, true_and, $ls,*] $[$loc]?)

noncomputable def pb_is_quiet : XS := (xRet (xOp2 dNotInX (xC (.int 0)) (xOp2 dIx (xVar 0) (xC (.int 1)))))
noncomputable def p_is_quiet : DF := runP [false] 1 false pb_is_quiet
noncomputable def pb_ask_quiet : XS := (xIfS (xNot (xTest (xCall p_is_quiet (xCons (xVar 0) xNil))))
    (xRaise "Loud")
    xNext)
noncomputable def p_ask_quiet : DF := runP [false] 1 false pb_ask_quiet
noncomputable def pb_counts_1 : XS := (xSeq (xSet 8 (xOpL dTup (xCons (xOp2 dAdd (xVar 4) (xVar 6)) (xCons (xOp2 dAdd (xVar 5) (xVar 7)) xNil))))
    (xDPut 3 (xVar 8) (xOp2 dAdd (xDGet2 3 (xVar 8) (xC (.int 0))) (xC (.int 1)))))
noncomputable def pb_counts_2 : XS := (xFor (xIt (xVar 2)) (gsTup 2 (gsCons (gSet 6) (gsCons (gSet 7) gsNil))) pb_counts_1)
noncomputable def pb_counts : XS := (xSeq (xSet 2 (xCall p_offsets (xCons (xVar 0) xNil)))
    (xSeq (xSetO 3 (xC (.dicT false [])))
    (xSeq (xFor (xItO 1) (gsTup 2 (gsCons (gSet 4) (gsCons (gSet 5) gsNil))) pb_counts_2)
    (xRet (xTake 3)))))
noncomputable def p_counts : DF := runP [false, true] 9 true pb_counts
noncomputable def pb_next_turn_1 : XS := (xDPut 3 (xVar 4) (xC (.bl true)))
noncomputable def pb_next_turn : XS := (xSeq (xDrop (xCall p_ask_quiet (xCons (xVar 0) xNil)))
    (xSeq (xSet 2 (xCall p_counts (xCons (xOp2 dIx (xVar 0) (xC (.int 0))) (xConsR (xVar 1) xNil))))
    (xSeq (xSetO 3 (xC (.dicT false [])))
    (xSeq (xFor (xIt (xVar 1)) (gSet 4) pb_next_turn_1)
    (xSeq (xSet 5 (xOp1 dSSG (xOp2 dAdd (xKeysV (xVar 2)) (xVar 1))))
    (xRet (xLC (xIt (xVar 5)) (gSet 4) (xTest (xCall p_comes (xCons (xVar 0) (xCons (xCmpO dInX (xVar 4) 3) (xCons (xDGetV (xVar 2) (xVar 4) (xC (.int 0))) xNil))))) (xVar 4) [4])))))))
noncomputable def p_next_turn : DF := runP [false, false] 6 true pb_next_turn
def Lt2 (p q : Int × Int) : Prop := p.1 < q.1 ∨ p.1 = q.1 ∧ p.2 < q.2
/-- a picture: its cells in their order, each once -/
def Pic (l : List (Int × Int)) : Prop := l.Pairwise Lt2
theorem Pic.nodup {l : List (Int × Int)} (h : Pic l) : l.Nodup := h.imp fun {p q} z e => by
  subst e
  unfold Lt2 at z
  omega
theorem Pic.sort {l : List (Int × Int)} (h : Pic l) : sortE l = l := sort_lt h
theorem pic_of {l : List (Int × Int)} (hn : l.Nodup) : Pic (sortE l) := by
  have h1 := sortE_pw l
  have h2 : (sortE l).Nodup := ((sortE_perm l).nodup_iff).mpr hn
  exact (h1.and h2).imp fun {p q} z => by
    obtain ⟨z1, z2⟩ := z
    rw [leE_pair, decide_eq_true_eq] at z1
    rcases z1 with z1 | ⟨z1, z3⟩
    · exact .inl z1
    · rcases Int.lt_or_eq_of_le z3 with z4 | z4
      · exact .inr ⟨z1, z4⟩
      · exact absurd (Prod.ext z1 z4) z2
theorem Pic.ext {l m : List (Int × Int)} (hl : Pic l) (hm : Pic m) (e : ∀ p, p ∈ l ↔ p ∈ m) : l = m := by
  have := sortE_cong ((List.perm_ext_iff_of_nodup hl.nodup hm.nodup).mpr e)
  rwa [hl.sort, hm.sort] at this
theorem Pic.sub {l m : List (Int × Int)} (h : Pic l) (s : m.Sublist l) : Pic m := List.Pairwise.sublist s h
theorem ddS_pic (cs : List (Int × Int)) : Pic (ddS cs) := pic_of (nodup_dd cs)
def imgsP (k : Int) (live : List (Int × Int)) : List (Int × Int) := live.flatMap fun p => (near k).map fun d => sh d p
def livesP (k : Int) (live : List (Int × Int)) (c : Int × Int) : Nat := live.countP fun p => decide ((c.1 - p.1, c.2 - p.2) ∈ near k)
theorem near_nodup (k : Int) : (near k).Nodup := by
  unfold near
  split <;> decide
theorem imgsP_count (k : Int) (live : List (Int × Int)) (c : Int × Int) : (imgsP k live).count c = livesP k live c := by
  unfold imgsP livesP
  induction live with
  | nil => rfl
  | cons p l ih =>
    rw [List.flatMap_cons, List.count_append, ih, List.countP_cons, Nat.add_comm]
    congr 1
    rw [List.count_eq_countP, List.countP_map]
    have e : (near k).countP ((fun x => x == c) ∘ fun d => sh d p) = (near k).count (c.1 - p.1, c.2 - p.2) := by
      rw [List.count_eq_countP]
      refine List.countP_congr fun d _ => ?_
      show (sh d p == c) = true ↔ (d == (c.1 - p.1, c.2 - p.2)) = true
      rw [beq_iff_eq, beq_iff_eq]
      unfold sh
      constructor
      · rintro rfl
        apply Prod.ext <;> simp only <;> omega
      · intro z
        rw [z]
        apply Prod.ext <;> simp only <;> omega
    rw [e]
    by_cases hm : (c.1 - p.1, c.2 - p.2) ∈ near k
    · rw [if_pos (decide_eq_true hm)]
      have h1 := List.nodup_iff_count.mp (near_nodup k) (c.1 - p.1, c.2 - p.2)
      have h2 := List.count_pos_iff.mpr hm
      omega
    · rw [if_neg (by simpa using hm)]
      exact List.count_eq_zero.mpr hm
def cond (k : Int) (bs ss : List Int) (live : List (Int × Int)) (c : Int × Int) : Bool := decide (((livesP k live c : Nat) : Int) ∈ if c ∈ live then ss else bs)
/-- the next turn in the plane -/
def nextP (k : Int) (bs ss : List Int) (live : List (Int × Int)) : List (Int × Int) := (ddS ((cntT (imgsP k live)).map (·.1) ++ live)).filter (cond k bs ss live)
theorem nextP_pic (k : Int) (bs ss : List Int) (live : List (Int × Int)) : Pic (nextP k bs ss live) := (ddS_pic _).sub List.filter_sublist
theorem cntT_keys (l : List (Int × Int)) (c : Int × Int) : c ∈ (cntT l).map (·.1) ↔ c ∈ l := by
  unfold cntT
  suffices ∀ (l : List (Int × Int)) (T : List ((Int × Int) × Int)), c ∈ (l.foldl (fun T c => ptA T c ((lkA T c).getD 0 + 1)) T).map (·.1) ↔ c ∈ T.map (·.1) ∨ c ∈ l by
    rw [this]
    simp
  intro l
  induction l with
  | nil => intro T; simp
  | cons a l ih =>
    intro T
    rw [List.foldl_cons, ih, ptA_keys, List.mem_cons]
    constructor
    · rintro ((h | h) | h)
      · exact .inr (.inl h)
      · exact .inl h
      · exact .inr (.inr h)
    · rintro (h | h | h)
      · exact .inl (.inr h)
      · exact .inl (.inl h)
      · exact .inr h
theorem mem_nextP {k : Int} {bs : List Int} (hq : 0 ∉ bs) (ss : List Int) (live : List (Int × Int)) (c : Int × Int) : c ∈ nextP k bs ss live ↔ cond k bs ss live c = true := by
  unfold nextP
  rw [List.mem_filter, mem_ddS, List.mem_append, cntT_keys]
  refine ⟨fun h => h.2, fun h => ⟨?_, h⟩⟩
  by_cases hl : c ∈ live
  · exact .inr hl
  · refine .inl (Classical.byContradiction fun hi => ?_)
    unfold cond at h
    rw [if_neg hl, decide_eq_true_eq, ← imgsP_count, List.count_eq_zero.mpr hi] at h
    exact hq h
theorem nextP_ext {k : Int} {bs : List Int} (hq : 0 ∉ bs) (ss : List Int) (live : List (Int × Int)) {l : List (Int × Int)} (hl : Pic l) (h : ∀ c, c ∈ l ↔ cond k bs ss live c = true) : l = nextP k bs ss live :=
  hl.ext (nextP_pic k bs ss live) fun c => (h c).trans (mem_nextP hq ss live c).symm
def afterP (k : Int) (bs ss : List Int) (live : List (Int × Int)) : Nat → List (Int × Int)
  | 0 => live
  | n + 1 => nextP k bs ss (afterP k bs ss live n)
theorem afterP_pic {k : Int} {bs ss : List Int} {live : List (Int × Int)} (h : Pic live) (n : Nat) : Pic (afterP k bs ss live n) := by
  cases n with
  | zero => exact h
  | succ n => exact nextP_pic _ _ _ _
def Bx (l t : Int) (w h : Nat) (live : List (Int × Int)) : Prop := ∀ p ∈ live, (l ≤ p.1 ∧ p.1 < l + w) ∧ t ≤ p.2 ∧ p.2 < t + h
theorem Bx.len {l t : Int} {w h : Nat} {live : List (Int × Int)} (b : Bx l t w h live) (hn : live.Nodup) : live.length ≤ w * h := by
  have nd : (live.map (sh (-l, -t))).Nodup := List.pairwise_map.mpr (hn.imp fun {p q} z e => z (by
    unfold sh at e
    injection e with e1 e2
    apply Prod.ext <;> omega))
  have := nodup_len nd (m := ringL w h) fun p hp => by
    obtain ⟨q, hq, rfl⟩ := List.mem_map.mp hp
    obtain ⟨⟨h1, h2⟩, h3, h4⟩ := b q hq
    refine mem_ringL.mpr ⟨⟨?_, ?_⟩, ?_, ?_⟩ <;> (unfold sh; simp only; omega)
  rwa [List.length_map, ringL_len] at this
theorem near_small {k : Int} {d : Int × Int} (h : d ∈ near k) : (-1 ≤ d.1 ∧ d.1 ≤ 1) ∧ -1 ≤ d.2 ∧ d.2 ≤ 1 := by
  have key : ∀ d ∈ N8, (-1 ≤ d.1 ∧ d.1 ≤ 1) ∧ -1 ≤ d.2 ∧ d.2 ≤ 1 := by decide
  have k4 : ∀ d ∈ N4, d ∈ N8 := by decide
  have k6 : ∀ d ∈ N6, d ∈ N8 := by decide
  unfold near at h
  split at h
  · exact key d (k4 d h)
  · exact key d (k6 d h)
  · exact key d h
theorem Bx.imgs {l t : Int} {w h : Nat} {live : List (Int × Int)} (b : Bx l t w h live) (k : Int) : Bx (l - 1) (t - 1) (w + 2) (h + 2) (imgsP k live) := fun c hc => by
  unfold imgsP at hc
  obtain ⟨p, hp, hc⟩ := List.mem_flatMap.mp hc
  obtain ⟨d, hd, rfl⟩ := List.mem_map.mp hc
  obtain ⟨⟨h1, h2⟩, h3, h4⟩ := b p hp
  obtain ⟨⟨g1, g2⟩, g3, g4⟩ := near_small hd
  unfold sh
  simp only
  omega
theorem Bx.next {l t : Int} {w h : Nat} {live : List (Int × Int)} (b : Bx l t w h live) (k : Int) (bs ss : List Int) : Bx (l - 1) (t - 1) (w + 2) (h + 2) (nextP k bs ss live) := fun c hc => by
  have hm := (List.mem_filter.mp hc).1
  rw [mem_ddS, List.mem_append, cntT_keys] at hm
  rcases hm with hm | hm
  · exact b.imgs k c hm
  · obtain ⟨⟨h1, h2⟩, h3, h4⟩ := b c hm
    omega
theorem Bx.after {l t : Int} {w h : Nat} {live : List (Int × Int)} (b : Bx l t w h live) (k : Int) (bs ss : List Int) : ∀ n : Nat, Bx (l - n) (t - n) (w + 2 * n) (h + 2 * n) (afterP k bs ss live n)
  | 0 => by
    intro c hc
    obtain ⟨⟨h1, h2⟩, h3, h4⟩ := b c hc
    omega
  | n + 1 => by
    have := (b.after k bs ss n).next k bs ss
    intro c hc
    obtain ⟨⟨h1, h2⟩, h3, h4⟩ := this c hc
    omega
theorem quiet_is (k : Int) {bs : List Int} (hq : 0 ∉ bs) (ss : List Int) : p_ask_quiet [ruleD k bs ss] = .ok .non [] := by
  have e : p_is_quiet [ruleD k bs ss] = .ok (.bl true) [] := by
    have h := zho 0 bs
    rw [decide_eq_false hq] at h
    unfold p_is_quiet pb_is_quiet
    simp! [ruleD, h]
  unfold p_ask_quiet pb_ask_quiet
  simp! [ruleD] at e ⊢
  simp! [e]
theorem counts_is {k : Int} (hk : Kind k) (live : List (Int × Int)) (hl : live.length ≤ 1600) : p_counts [.int k, cells live] = .ok (.dicT false (encE D.int (cntT (imgsP k live)))) [] := by
  unfold p_counts pb_counts
  have ho := off_is k hk
  obtain ⟨ρ', e, s5, s6, s7, s8, s9, rfl⟩ := for_list (g := gsTup 2 (gsCons (gSet 4) (gsCons (gSet 5) gsNil))) (body := pb_counts_2) (e := cellP) (fun i ρ => ∃ s5 s6 s7 s8 s9, ρ = [.val (.int k), .rd (cells live), .val (cells (near k)), .own (.dicT false (encE D.int (cntT (imgsP k (live.take i))))), s5, s6, s7, s8, s9]) (l := live) (ρ := [.val (.int k), .rd (cells live), .val (cells (near k)), .own (.dicT false []), .emp, .emp, .emp, .emp, .emp]) ⟨_, _, _, _, _, rfl⟩ (fun i p ρ hi hρ => by
    obtain ⟨s5, s6, s7, s8, s9, rfl⟩ := hρ
    obtain ⟨x, y⟩ := p
    refine ⟨_, rfl, ?_⟩
    have l1 : i < live.length := (List.getElem?_eq_some_iff.mp hi).1
    have lb : (imgsP k (live.take i)).length ≤ i * 8 := by
      have := flat_le (fun p => (near k).map fun d => sh d p) 8 (live.take i) (fun p => by rw [List.length_map]; exact near_len k)
      rw [List.length_take] at this
      exact Nat.le_trans this (Nat.mul_le_mul (by omega) (Nat.le_refl _))
    obtain ⟨ρ', e, s7, s8, s9, rfl⟩ := for_list (g := gsTup 2 (gsCons (gSet 6) (gsCons (gSet 7) gsNil))) (body := pb_counts_1) (e := cellP) (fun j ρ => ∃ s7 s8 s9, ρ = [.val (.int k), .rd (cells live), .val (cells (near k)), .own (.dicT false (encE D.int (cntT (imgsP k (live.take i) ++ ((near k).take j).map fun d => sh d (x, y))))), .val (.int x), .val (.int y), s7, s8, s9]) (l := near k) (ρ := [.val (.int k), .rd (cells live), .val (cells (near k)), .own (.dicT false (encE D.int (cntT (imgsP k (live.take i))))), .val (.int x), .val (.int y), s7, s8, s9]) ⟨_, _, _, by rw [List.take_zero, List.map_nil, List.append_nil]⟩ (fun j d ρ hj hρ => by
      obtain ⟨s7, s8, s9, rfl⟩ := hρ
      obtain ⟨u, v⟩ := d
      refine ⟨_, rfl, ?_⟩
      have l2 : j < (near k).length := (List.getElem?_eq_some_iff.mp hj).1
      have l3 := near_len k
      generalize hL : imgsP k (live.take i) ++ ((near k).take j).map (fun d => sh d (x, y)) = L
      have lL : L.length ≤ 20000 := by
        rw [← hL, List.length_append, List.length_map, List.length_take]
        omega
      have hz : (encE D.int (cntT L)).length < sizeLine := by
        rw [encE_len]
        exact szBl (Nat.le_trans (cntT_len L) lL)
      have hx : imgsP k (live.take i) ++ ((near k).take (j + 1)).map (fun d => sh d (x, y)) = L ++ [(x + u, y + v)] := by
        rw [take_snoc hj, List.map_append, ← List.append_assoc, hL]
        rfl
      rw [hx, cntT_snoc]
      unfold pb_counts_1
      simp! [cells, cellP, hz, lk_int, pt_int]
      exact ⟨_, .inl rfl, _, _, _, rfl⟩)
    have hx : imgsP k (live.take (i + 1)) = imgsP k (live.take i) ++ (near k).map fun d => sh d (x, y) := by
      rw [take_snoc hi]
      unfold imgsP
      rw [List.flatMap_append]
      simp
    rw [List.take_length, ← hx] at e
    unfold pb_counts_2
    simp! [cells] at e ⊢
    simp! [e]
    exact ⟨_, .inl rfl, _, _, _, _, _, rfl⟩)
  rw [List.take_length] at e
  simp! [cells] at e ho ⊢
  simp! [ho, e]
theorem keys_enc (T : List ((Int × Int) × Int)) : (encE D.int T).map (fun e => D.tup (e.1.map dKey)) = (T.map (·.1)).map cellP := by
  unfold encE
  rw [List.map_map, List.map_map]
  rfl
theorem imgsP_len (k : Int) (live : List (Int × Int)) : (imgsP k live).length ≤ live.length * 8 := flat_le _ 8 live fun p => by rw [List.length_map]; exact near_len k
end G


set_option maxHeartbeats 4000000
namespace G
open PySem PySem.Spec PyProof.Rows L2

end G


set_option maxHeartbeats 4000000
namespace G
open PySem PySem.Spec PyProof.Rows L2

end G


set_option maxHeartbeats 4000000
namespace G
open PySem PySem.Spec PyProof.Rows L2

def tFrzE (t : TE) : TE := fun σ H Q => t σ H Q ∨ ∃ d u, H d = some u ∧ Mut (some u) ∧ ∀ od, t σ (upd H d (.frz od u)) Q
theorem pe_frz {X : Cx} {e : Expr} {t : TE} (h : PE X e t) : PE X e (tFrzE t) := by
  refine ⟨fun pins s σ H Q I hw => ?_⟩
  rcases hw with hw | ⟨d, u, hd, mu, hw⟩
  · exact h.run pins s σ _ _ I hw
  · obtain ⟨od, I1⟩ := I.lock hd mu
    exact h.run pins s σ _ _ I1 (hw od)
/-- the slots once the dict at i is locked -/
def frzR (i : Nat) (ρ : Rho) : Option Rho := match ownD i ρ with
  | some (.dicT false es) => some (ρ.set i (.own (.dicT true es)))
  | some (.dicK false es) => some (ρ.set i (.own (.dicK true es)))
  | some (.dicT true _) => some ρ
  | some (.dicK true _) => some ρ
  | _ => none
def frzV {α : Type} (i : Nat) (t : Rho → Res α) : Rho → Res α := fun ρ => match frzR i ρ with
  | some ρ1 => t ρ1
  | none => .bad
section
variable {X : Cx} {E : EW} {fr : Bool} {pos : Pos}
theorem frz_of {K : PySem.W.Frag} {i : Nat} {ρ ρ1 : Rho} {σ : L2.St} {F H : Hp} (r : Rel K F H ρ σ) (e : frzR i ρ = some ρ1) :
    ρ1 = ρ ∨ ∃ d u, H d = some u ∧ Mut (some u) ∧ ∀ od, Go K ρ σ F H ρ1 σ F (upd H d (.frz od u)) := by
  unfold frzR at e
  split at e
  · rename_i es q
    cases e
    obtain ⟨p, o, s0, f0, h0, ro⟩ := r.own (ownD_of q)
    cases ro with
    | @dicT _ _ kvs _ hk hr => exact .inr ⟨p, _, h0, trivial, fun od => Go.mut r (ownD_of q) s0 f0 h0 (Ro.dicT (z := true) (o := od) hk hr)⟩
  · rename_i es q
    cases e
    obtain ⟨p, o, s0, f0, h0, ro⟩ := r.own (ownD_of q)
    cases ro with
    | @dicK _ _ kvs _ hk hr => exact .inr ⟨p, _, h0, trivial, fun od => Go.mut r (ownD_of q) s0 f0 h0 (Ro.dicK (z := true) (o := od) hk hr)⟩
  · cases e; exact .inl rfl
  · cases e; exact .inl rfl
  · cases e
def dKeysT : D → Option (List D)
  | .dicT true es => some (es.map fun e => .tup (e.1.map dKey))
  | _ => none
def xItK (i : Nat) : XA := fun ρ => match ρ[i]? with
  | some (.rd d) => lift dKeysT d ρ
  | _ => .bad
theorem iters_keysT {K : PySem.W.Frag} {ρ : Rho} {σ : L2.St} {F H : Hp} {a : Addr} {o : Obj} {kvs : List (List Key × V)} {es : List (List Key × D)} (hk : kvs.map (·.1) = es.map (·.1)) (h : ∀ ρ2 σ2 F2 H2, Go K ρ σ F H ρ2 σ2 F2 H2 → H2 a = some (.frz o (.dT kvs))) : Iters K ρ σ F H (es.map fun e => .tup (e.1.map dKey)) (Itkt a o kvs) := fun ρ2 σ2 F2 H2 g => by
  have hlen : kvs.length = es.length := by
    have := congrArg List.length hk
    simpa using this
  refine ⟨fun i d hd => ?_, fun i hi => ⟨h ρ2 σ2 F2 H2 g, by rw [List.length_map] at hi; omega⟩⟩
  rw [List.getElem?_map] at hd
  obtain ⟨e, he, rfl⟩ := Option.map_eq_some_iff.mp hd
  have hi : i < es.length := (List.getElem?_eq_some_iff.mp he).1
  refine ⟨⟨h ρ2 σ2 F2 H2 g, by omega⟩, fun x H3 y => ?_⟩
  obtain ⟨rfl, k, v, q, hkv, rfl, hq⟩ := y
  have ek : k = e.1 := by
    have h1 : (kvs.map (·.1))[i]? = some k := by rw [List.getElem?_map, hkv]; rfl
    rw [hk, List.getElem?_map, he] at h1
    exact (Option.some.inj h1).symm
  subst ek
  obtain ⟨F3, f1, f2, f3, f4⟩ := keys_known (K := K) (kvs := [(e.1, v)]) (es := [e]) (bs := [q]) g.rel.ex rfl (.cons hq .nil)
  refine ⟨F3, ⟨f1, Same.refl _, f2, f3⟩, ?_⟩
  cases f4 with
  | cons r _ => exact r
theorem xi_keys {tg : Expr} {i : Nat} {x : Str} {xp : Pos} (ho : PE X (.Name x xp) (tVar i)) : PI X tg (.Name x xp) (lI X.K E (xItK i)) := pi_imp (pi_keys ho) fun σ H R h => by
  obtain ⟨F, ρ, r, p⟩ := h
  unfold Pend xItK at p
  split at p <;> rename_i e
  · split at e
    · rename_i ρ' d q
      have hd : rdD i ρ = some d := by unfold rdD; rw [q]
      obtain ⟨v, s1, ra⟩ := r.rd hd
      refine ⟨v, s1, ?_⟩
      unfold lift at e
      split at e
      · rename_i ds hds
        cases e
        unfold dKeysT at hds
        split at hds
        · cases hds
          cases ra with
          | val rv nf =>
            cases rv with
            | dicT hf hk hr => exact ⟨_, _, rfl, .inr ⟨_, r.ex _ _ hf, p F H (Go.refl r) _ (iters_keysT hk fun ρ2 σ2 F2 H2 g => g.rel.ex _ _ (g.ex _ _ hf))⟩⟩
          | own f1 h1 ro =>
            have nO := r.rdis i _ _ q s1
            cases ro with
            | dicT hk hr => exact ⟨_, _, rfl, .inr ⟨_, h1, p F H (Go.refl r) _ (iters_keysT hk fun ρ2 σ2 F2 H2 g => (g.keep _ _ h1 f1 nO).1)⟩⟩
        · cases hds
      · cases e
    · cases e
  · split at e
    · unfold lift at e
      split at e <;> cases e
    · cases e
  · exact p.elim
end
section
variable {α : Type} (ρ : Rho) (i : Nat) (t : XS) (u : Rho → Res α)
def frzO (i : Nat) (ρ : Rho) (o : Option D) : Option Rho := match o with
  | some (.dicT false es) => some (ρ.set i (.own (.dicT true es)))
  | some (.dicK false es) => some (ρ.set i (.own (.dicK true es)))
  | some (.dicT true _) => some ρ
  | some (.dicK true _) => some ρ
  | _ => none
theorem zhp : frzR i ρ = frzO i ρ (ownD i ρ) := rfl
theorem zhq (es : List (List Key × D)) : frzO i ρ (some (.dicT false es)) = some (ρ.set i (.own (.dicT true es))) := rfl
theorem zhr (es : List (List Key × D)) : frzO i ρ (some (.dicT true es)) = some ρ := rfl
def itKO (o : Option Slot) (ρ : Rho) : Res (List D) := match o with
  | some (.rd d) => lift dKeysT d ρ
  | _ => .bad
theorem zhu : xItK i ρ = itKO ρ[i]? ρ := rfl
theorem zhv (d : D) : itKO (some (.rd d)) ρ = liftO (dKeysT d) ρ := rfl
theorem zhw (es : List (List Key × D)) : dKeysT (.dicT true es) = some (es.map fun e => .tup (e.1.map dKey)) := rfl
end
end G


set_option maxHeartbeats 4000000
namespace G
open PySem PySem.Spec PyProof.Rows L2

def enumF : Nat → List D → List D
  | _, [] => []
  | n, d :: r => .tup [.int (n : Nat), d] :: enumF (n + 1) r
theorem enumF_get : ∀ (ds : List D) (n i : Nat), (enumF n ds)[i]? = ds[i]?.map fun d => .tup [.int ((n + i : Nat) : Int), d]
  | [], n, i => by simp [enumF]
  | d :: r, n, 0 => rfl
  | d :: r, n, i + 1 => by
    show (enumF (n + 1) r)[i]? = _
    rw [enumF_get r (n + 1) i, List.getElem?_cons_succ, show n + 1 + i = n + (i + 1) by omega]
theorem enumF_len : ∀ (ds : List D) (n : Nat), (enumF n ds).length = ds.length
  | [], _ => rfl
  | d :: r, n => by
    show (enumF (n + 1) r).length + 1 = r.length + 1
    rw [enumF_len r (n + 1)]
section
variable {X : Cx} {E : EW} {fr : Bool} {pos : Pos}
end
section
variable (ρ : Rho) (ta tb tc : XV)
end
end G


set_option maxHeartbeats 4000000
namespace G
open PySem PySem.Spec PyProof.Rows L2

end G


set_option maxHeartbeats 4000000
namespace G
open PySem PySem.Spec PyProof.Rows L2

theorem iters_enum {K : PySem.W.Frag} {ρ : Rho} {σ : L2.St} {F H : Hp} {a : Addr} {xs : List V} {ds : List D} (h : ∀ ρ2 σ2 F2 H2, Go K ρ σ F H ρ2 σ2 F2 H2 → SqL K H2 a xs) (r : RpAll K F xs ds) : Iters K ρ σ F H (enumF 0 ds) (Ite K a) := fun ρ2 σ2 F2 H2 g =>
  ⟨fun i d hd => by
    rw [enumF_get, Nat.zero_add] at hd
    obtain ⟨e, he, rfl⟩ := Option.map_eq_some_iff.mp hd
    obtain ⟨v, hv, rv⟩ := r.get he
    exact ⟨⟨xs, v, h ρ2 σ2 F2 H2 g, hv⟩, fun x H3 y => by
      obtain ⟨T, x', rfl, hT, rfl, y⟩ := y
      have := y xs (h ρ2 σ2 F2 _ g)
      rw [hv] at this
      cases this
      exact ⟨_, Gr.new g.rel.ex hT, .tup upd_same (.cons (.int _) (.cons (rv.mono (g.ex.trans (Gr.new (o := .tup _) g.rel.ex hT).ex)) .nil))⟩⟩, fun i hi => ⟨xs, h ρ2 σ2 F2 H2 g, by rw [r.length]; rw [enumF_len] at hi; exact hi⟩⟩
section
variable {X : Cx} {E : EW} {fr : Bool} {pos : Pos}
end
section
variable (ρ : Rho) (i : Nat) (t : XV)
end
end G


set_option maxHeartbeats 4000000
namespace G
open PySem PySem.Spec PyProof.Rows L2

end G


set_option maxHeartbeats 4000000
namespace G
open PySem PySem.Spec PyProof.Rows L2

def opT (T : List ((Int × Int) × Int)) (o : (Int × Int) × Int) : List ((Int × Int) × Int) := ptA T o.1 ((lkA T o.1).getD 0 + o.2)
def opsT (os : List ((Int × Int) × Int)) : List ((Int × Int) × Int) := os.foldl opT []
def sumAt (os : List ((Int × Int) × Int)) (c : Int × Int) : Int := os.foldr (fun o s => (if o.1 = c then o.2 else 0) + s) 0
theorem opsT_snoc (os : List ((Int × Int) × Int)) (o : (Int × Int) × Int) : opsT (os ++ [o]) = ptA (opsT os) o.1 ((lkA (opsT os) o.1).getD 0 + o.2) := by
  unfold opsT
  rw [List.foldl_append]
  rfl
theorem opsT_val (os : List ((Int × Int) × Int)) (c : Int × Int) : (lkA (opsT os) c).getD 0 = sumAt os c := by
  unfold opsT
  suffices ∀ (os : List ((Int × Int) × Int)) (T : List ((Int × Int) × Int)), (lkA (os.foldl opT T) c).getD 0 = (lkA T c).getD 0 + sumAt os c by
    rw [this, lkA_nil]
    show (0 : Int) + _ = _
    omega
  intro os
  induction os with
  | nil => intro T; show _ = _ + (0 : Int); simp
  | cons o os ih =>
    intro T
    rw [List.foldl_cons, ih]
    show _ = _ + ((if o.1 = c then o.2 else 0) + sumAt os c)
    unfold opT
    rw [lkA_pt]
    by_cases h : o.1 = c
    · rw [if_pos h.symm, if_pos h, ← h]
      show (lkA T o.1).getD 0 + o.2 + _ = _
      omega
    · rw [if_neg (fun z => h z.symm), if_neg h]
      omega
theorem opsT_keys (os : List ((Int × Int) × Int)) (c : Int × Int) : c ∈ (opsT os).map (·.1) ↔ c ∈ os.map (·.1) := by
  unfold opsT
  suffices ∀ (os : List ((Int × Int) × Int)) (T : List ((Int × Int) × Int)), c ∈ (os.foldl opT T).map (·.1) ↔ c ∈ T.map (·.1) ∨ c ∈ os.map (·.1) by
    rw [this]
    simp
  intro os
  induction os with
  | nil => intro T; simp
  | cons o os ih =>
    intro T
    rw [List.foldl_cons, ih, List.map_cons, List.mem_cons]
    unfold opT
    rw [ptA_keys]
    constructor
    · rintro ((h | h) | h)
      · exact .inr (.inl h)
      · exact .inl h
      · exact .inr (.inr h)
    · rintro (h | h | h)
      · exact .inl (.inr h)
      · exact .inl (.inl h)
      · exact .inr h
theorem opsT_nodup (os : List ((Int × Int) × Int)) : ((opsT os).map (·.1)).Nodup := by
  unfold opsT
  suffices ∀ (os : List ((Int × Int) × Int)) (T : List ((Int × Int) × Int)), (T.map (·.1)).Nodup → ((os.foldl opT T).map (·.1)).Nodup from this os [] (by simp)
  intro os
  induction os with
  | nil => intro T h; exact h
  | cons o os ih => intro T h; exact ih _ (ptA_nodup _ _ _ h)
theorem opsT_len (os : List ((Int × Int) × Int)) : (opsT os).length ≤ os.length := by
  unfold opsT
  suffices ∀ (os : List ((Int × Int) × Int)) (T : List ((Int × Int) × Int)), (os.foldl opT T).length ≤ T.length + os.length by
    have := this os []
    simpa using this
  intro os
  induction os with
  | nil => intro T; simp
  | cons o os ih =>
    intro T
    rw [List.foldl_cons]
    have h1 := ih (opT T o)
    have h2 : (opT T o).length ≤ T.length + 1 := ptA_len _ _ _
    rw [List.length_cons]
    omega
theorem sumAt_app (a b : List ((Int × Int) × Int)) (c : Int × Int) : sumAt (a ++ b) c = sumAt a c + sumAt b c := by
  induction a with
  | nil => show _ = (0 : Int) + _; simp
  | cons o a ih =>
    show (if o.1 = c then o.2 else 0) + sumAt (a ++ b) c = (if o.1 = c then o.2 else 0) + sumAt a c + sumAt b c
    rw [ih]
    omega
theorem sumAt_ones (l : List (Int × Int)) (c : Int × Int) : sumAt (l.map fun d => (d, (1 : Int))) c = ((l.count c : Nat) : Int) := by
  induction l with
  | nil => rfl
  | cons d l ih =>
    show (if d = c then (1 : Int) else 0) + sumAt (l.map fun d => (d, (1 : Int))) c = _
    rw [ih, List.count_cons]
    by_cases h : d = c
    · rw [if_pos h, if_pos (by rw [h]; exact beq_self_eq_true c)]
      omega
    · rw [if_neg h, if_neg (by simpa using h)]
      omega
/-- the cells of a picture with nought, each with the cells about it with one -/
def opsL (L : List (Int × Int)) (live : List (Int × Int)) : List ((Int × Int) × Int) := live.flatMap fun p => (p, 0) :: (L.map fun d => sh d p).map fun c => (c, 1)
theorem opsL_sum (L live : List (Int × Int)) (c : Int × Int) : sumAt (opsL L live) c = (((live.flatMap fun p => L.map fun d => sh d p).count c : Nat) : Int) := by
  unfold opsL
  induction live with
  | nil => rfl
  | cons p live ih =>
    rw [List.flatMap_cons, List.flatMap_cons, List.count_append, sumAt_app, ih]
    have h : sumAt ((p, 0) :: (L.map fun d => sh d p).map fun c => (c, (1 : Int))) c = sumAt ((L.map fun d => sh d p).map fun c => (c, (1 : Int))) c := by
      show (if p = c then (0 : Int) else 0) + sumAt ((L.map fun d => sh d p).map fun c => (c, (1 : Int))) c = _
      split <;> omega
    rw [h, sumAt_ones]
    omega
theorem opsL_lives {k : Int} {L : List (Int × Int)} (hL : L.Perm (near k)) (live : List (Int × Int)) (c : Int × Int) : (lkA (opsT (opsL L live)) c).getD 0 = ((livesP k live c : Nat) : Int) := by
  rw [opsT_val, opsL_sum, ← imgsP_count]
  unfold imgsP
  congr 1
  induction live with
  | nil => rfl
  | cons p live ih =>
    rw [List.flatMap_cons, List.flatMap_cons, List.count_append, List.count_append, ih, (hL.map fun d => sh d p).count_eq]
theorem opsL_keys {k : Int} {L : List (Int × Int)} (hL : L.Perm (near k)) (live : List (Int × Int)) (c : Int × Int) : c ∈ (opsT (opsL L live)).map (·.1) ↔ c ∈ live ∨ c ∈ imgsP k live := by
  rw [opsT_keys]
  unfold opsL imgsP
  rw [List.mem_map]
  simp only [List.mem_flatMap, List.mem_cons, List.mem_map]
  constructor
  · rintro ⟨o, ⟨p, hp, h | ⟨d, ⟨e, he, rfl⟩, rfl⟩⟩, rfl⟩
    · subst h; exact .inl hp
    · exact .inr ⟨p, hp, e, hL.mem_iff.mp he, rfl⟩
  · rintro (h | ⟨p, hp, e, he, rfl⟩)
    · exact ⟨(c, 0), ⟨c, h, .inl rfl⟩, rfl⟩
    · exact ⟨(sh e p, 1), ⟨p, hp, .inr ⟨sh e p, ⟨e, hL.mem_iff.mpr he, rfl⟩, rfl⟩⟩, rfl⟩
/-- the law's own next turn is the next turn -/
theorem opsL_next {k : Int} {L : List (Int × Int)} (hL : L.Perm (near k)) {bs : List Int} (hq : 0 ∉ bs) (ss : List Int) (live : List (Int × Int)) : sortE (((opsT (opsL L live)).map (·.1)).filter (cond k bs ss live)) = nextP k bs ss live := by
  refine nextP_ext hq ss live (pic_of ((opsT_nodup _).filter _)) fun c => ?_
  rw [mem_sortE, List.mem_filter, opsL_keys hL]
  constructor
  · exact fun h => h.2
  · intro h
    refine ⟨?_, h⟩
    have := (mem_nextP hq ss live c).mpr h
    unfold nextP at this
    have := (List.mem_filter.mp this).1
    rw [mem_ddS, List.mem_append, cntT_keys] at this
    exact this.symm
theorem opsL_len {k : Int} {L : List (Int × Int)} (hL : L.length ≤ 8) (live : List (Int × Int)) : (opsT (opsL L live)).length ≤ 9 * live.length := by
  refine Nat.le_trans (opsT_len _) ?_
  unfold opsL
  induction live with
  | nil => simp
  | cons p live ih =>
    rw [List.flatMap_cons, List.length_append, List.length_cons, List.length_map, List.length_map, List.length_cons]
    omega
section
variable {g : XG} {body : XS}
theorem forRun_find {α : Type} {e : α → D} {p : α → Bool} {v : α → D} (I : Rho → Prop) : ∀ (l : List α) (ρ : Rho), I ρ → (∀ a ∈ l, ∀ ρ, I ρ → ∃ ρ1, g (e a) ρ = some ρ1 ∧ ∃ ρ2, I ρ2 ∧ ((p a = false ∧ (body ρ1 = .nx ρ2 ∨ body ρ1 = .cnt ρ2)) ∨ (p a = true ∧ body ρ1 = .ret (v a) ρ2))) →
    ∃ ρ', I ρ' ∧ ((l.find? p = none ∧ forRun g body (l.map e) ρ = .nx ρ') ∨ ∃ a, l.find? p = some a ∧ forRun g body (l.map e) ρ = .ret (v a) ρ')
  | [], ρ, h, _ => ⟨ρ, h, .inl ⟨rfl, rfl⟩⟩
  | a :: l, ρ, h, hs => by
    obtain ⟨ρ1, e1, ρ2, h2, hb⟩ := hs a (List.mem_cons_self ..) ρ h
    rcases hb with ⟨hp, hb⟩ | ⟨hp, hb⟩
    · obtain ⟨ρ', h3, h4⟩ := forRun_find (p := p) (v := v) I l ρ2 h2 fun b hb => hs b (List.mem_cons_of_mem _ hb)
      refine ⟨ρ', h3, ?_⟩
      have e3 : forRun g body ((a :: l).map e) ρ = forRun g body (l.map e) ρ2 := by
        rw [List.map_cons, zcK, e1]
        rcases hb with hb | hb
        · rw [zcL, hb, zcM]
        · rw [zcL, hb, zcN]
      rw [e3, List.find?_cons, hp]
      exact h4
    · refine ⟨ρ2, h2, .inr ⟨a, by rw [List.find?_cons, hp], ?_⟩⟩
      rw [List.map_cons, zcK, e1, zcL, hb, zcP]
/-- the first answer of r at i, i + 1, .. (n of them) -/
def first (r : Nat → Option D) : Nat → Nat → Option D
  | _, 0 => none
  | i, n + 1 => (r i).or (first r (i + 1) n)
theorem forRun_first {α : Type} {e : α → D} (I : Nat → Rho → Prop) (r : Nat → Option D) : ∀ (l : List α) (k : Nat) (ρ : Rho), I k ρ → (∀ (i : Nat) (a : α) (ρ : Rho), l[i]? = some a → I (k + i) ρ → ∃ ρ1, g (e a) ρ = some ρ1 ∧ ∃ ρ2, (r (k + i) = none ∧ (body ρ1 = .nx ρ2 ∨ body ρ1 = .cnt ρ2) ∧ I (k + i + 1) ρ2) ∨ ∃ v, r (k + i) = some v ∧ body ρ1 = .ret v ρ2) →
    ∃ ρ', (first r k l.length = none ∧ forRun g body (l.map e) ρ = .nx ρ' ∧ I (k + l.length) ρ') ∨ ∃ v, first r k l.length = some v ∧ forRun g body (l.map e) ρ = .ret v ρ'
  | [], k, ρ, h, _ => ⟨ρ, .inl ⟨rfl, rfl, h⟩⟩
  | a :: l, k, ρ, h, hs => by
    obtain ⟨ρ1, e1, ρ2, hb⟩ := hs 0 a ρ rfl h
    rcases hb with ⟨hr, hb, h2⟩ | ⟨v, hr, hb⟩
    · obtain ⟨ρ', h4⟩ := forRun_first I r l (k + 1) ρ2 h2 fun i b ρ hi hI => by
        have := hs (i + 1) b ρ hi (by rw [show k + (i + 1) = k + 1 + i by omega]; exact hI)
        rwa [show k + (i + 1) = k + 1 + i by omega] at this
      refine ⟨ρ', ?_⟩
      have e3 : forRun g body ((a :: l).map e) ρ = forRun g body (l.map e) ρ2 := by
        rw [List.map_cons, zcK, e1]
        rcases hb with hb | hb
        · rw [zcL, hb, zcM]
        · rw [zcL, hb, zcN]
      have e4 : first r k (a :: l).length = first r (k + 1) l.length := by
        show (r k).or (first r (k + 1) l.length) = _
        rw [show r k = none from hr]
        rfl
      rw [e3, e4, show k + (a :: l).length = k + 1 + l.length by rw [List.length_cons]; omega]
      exact h4
    · refine ⟨ρ2, .inr ⟨v, ?_, ?_⟩⟩
      · show (r k).or (first r (k + 1) l.length) = _
        rw [show r k = some v from hr]
        rfl
      · rw [List.map_cons, zcK, e1, zcL, hb, zcP]
end
section
variable {X : Cx} {E : EW}
theorem xn_frz (i : Nat) {e : Expr} {t : XV} (h : PE X e (lN X.K E t)) : PE X e (lN X.K E (frzV i t)) := pe_imp (pe_frz h) fun σ H Q h => by
  obtain ⟨F, ρ, r, p⟩ := h
  cases e1 : frzR i ρ with
  | none =>
    unfold Pend frzV at p
    simp only [e1] at p
  | some ρ1 =>
    have p : Pend X.K E (fun _ => t ρ1) ρ σ F H fun d ρ' F' H' => ∀ p o, F' p = none → H' p = some o → Ro X.K F' p o d → ¬ Own ρ' σ p → (Own ρ σ p ∨ H p = none) → Q (.ref p) H' := by
      unfold Pend frzV at p
      simp only [e1] at p
      unfold Pend
      exact p
    rcases frz_of r e1 with rfl | ⟨d, u, hd, mu, g⟩
    · exact .inl ⟨F, _, r, p⟩
    · refine .inr ⟨d, u, hd, mu, fun od => ⟨F, ρ1, (g od).rel, (Pend.go r (g od) p).mono fun a ρ' F' H' _ q w o h1 h2 h3 h4 h5 => q w o h1 h2 h3 h4 ?_⟩⟩
      rcases h5 with z | z
      · exact (g od).4 w z
      · refine .inr ?_
        by_cases hw : w = d
        · subst hw
          rw [upd_same] at z
          cases z
        · unfold upd at z
          rw [if_neg hw] at z
          exact z
end
section
variable {i : Nat} {ρ : Rho}
def frzV1 {α : Type} (t : Rho → Res α) (o : Option Rho) : Res α := match o with
  | some ρ1 => t ρ1
  | none => .bad
theorem zhJ {α : Type} (t : Rho → Res α) : frzV i t ρ = frzV1 t (frzR i ρ) := rfl
theorem zhK {α : Type} (t : Rho → Res α) : frzV1 t (some ρ) = t ρ := rfl
end
end G


set_option maxHeartbeats 4000000
namespace G
open PySem PySem.Spec PyProof.Rows L2

section
variable {P : Program} {w : World} {H : Hp} {h : Heap} {a b : Addr} {kvs : List (NestedKey × Addr × V)} {k : NestedKey}
end
section
variable {X : Cx} {pins : List (Addr × Obj)} {σ : L2.St} {H : Hp} {s : Shared} {a b : Addr} {v : V} {r : Value} {A : Around} {E : Value → Shared → Prop} {kvs : List (NestedKey × Addr × V)} {k : NestedKey}
end
section
variable {X : Cx} {o i e value : Expr} {pos pos' tpos : Pos} {td ty tv : TE}
end
end G


set_option maxHeartbeats 4000000
namespace G
open PySem PySem.Spec PyProof.Rows L2

section
variable {K : PySem.W.Frag} {F F' H H' : Hp}
end
section
variable {X : Cx} {E : EW} {fr : Bool} {pos : Pos}
end
section
variable {α β : Type} {ρ : Rho} {i : Nat} {ta tb : XV}
end
end G


set_option maxHeartbeats 4000000
namespace G
open PySem PySem.Spec PyProof.Rows L2

def whN (go : XS) (f : Fl) : Fl := match f with
  | .nx ρ => go ρ
  | .cnt ρ => go ρ
  | .brk ρ => .nx ρ
  | f => f
def whK (go body : XS) : Bool → Rho → Fl := fun b ρ1 => if b = true then whN go (body ρ1) else .nx ρ1
def whileRun (t : XT) (body : XS) : Nat → XS
  | 0, _ => .bad
  | n + 1, ρ => (t ρ).fl (whK (whileRun t body n) body)
def xWhile (n : Nat) (t : XT) (body : XS) : XS := whileRun t body n
section
variable {X : Cx} {E : EW} {fr : Bool} {pos : Pos}
theorem xs_while (n : Nat) {c : Expr} {body : List Stmt} {t : XT} {tb : XS} (hp : PassesOwn (model X.prog X.w) X.A X.env X.xe) (hc : PT X c (lT X.K E t)) (hb : PSs X body (lS X.K E fr tb)) : PS X (.While c body [] pos) (lS X.K E fr (xWhile n t tb)) := by
  refine ps_imp (ps_while hp hc hb) fun C σ H h => ?_
  obtain ⟨F, ρ, r, p⟩ := h
  refine ⟨fun m σ' H' => ∃ F' ρ', Go X.K ρ σ F H ρ' σ' F' H' ∧ PendS X.K E fr (whileRun t tb m) ρ' σ' F' H' C, ⟨n, F, ρ, Go.refl r, p⟩, ?_⟩
  rintro m σ' H' ⟨F', ρ', g, q⟩
  cases m with
  | zero =>
    unfold PendS whileRun at q
    exact q.elim
  | succ m =>
    have q' : PendS X.K E fr (fun ρ => (t ρ).fl (whK (whileRun t tb m) tb)) ρ' σ' F' H' C := q
    refine ⟨F', ρ', g.rel, (PendS.fl g.rel q').mono fun b ρ1 F1 H1 g1 q1 => ?_⟩
    cases b with
    | false =>
      rw [if_neg (by decide)]
      exact q1 σ' F1 H1 (Go.refl g1.rel)
    | true =>
      rw [if_pos rfl]
      have g01 := g.trans r g1
      refine ⟨fun σ2 H2 => ∃ F2 ρ2, Go X.K ρ σ F H ρ2 σ2 F2 H2 ∧ PendS X.K E fr (whileRun t tb m) ρ2 σ2 F2 H2 C, fun σ2 H2 h => ⟨m, Nat.lt_succ_self m, h⟩, F1, ρ1, g1.rel, ?_⟩
      have q2 : PendS X.K E fr (fun ρ => whN (whileRun t tb m) (tb ρ)) ρ1 σ' F1 H1 C := by
        unfold PendS at q1 ⊢
        exact q1
      have tail : ∀ {σ5 F5 H5 ρ5}, Go X.K ρ1 σ' F1 H1 ρ5 σ5 F5 H5 → PendS X.K E fr (fun _ => whileRun t tb m ρ5) ρ1 σ' F1 H1 C → ∃ F2 ρ2, Go X.K ρ σ F H ρ2 σ5 F2 H5 ∧ PendS X.K E fr (whileRun t tb m) ρ2 σ5 F2 H5 C :=
        fun {σ5 F5 H5 ρ5} g5 k => ⟨F5, ρ5, g01.trans r g5, PendS.go g1.rel g5 k⟩
      unfold PendS at q2 ⊢
      split <;> rename_i e5 <;> simp only [e5, whN] at q2
      · exact fun σ5 F5 H5 g5 => tail g5 q2
      · exact q2
      · exact q2
      · exact fun σ5 F5 H5 g5 => tail g5 q2
      · exact q2
end
/-- a while that ends, by an invariant over the turns -/
theorem while_inv {t : XT} {p : XS} (I : Nat → Rho → Prop) (J : Nat → Rho → Prop) (M : Nat) (hs : ∀ i ρ, i ≤ M → I i ρ → (∃ ρ1, t ρ = .ok false ρ1 ∧ J i ρ1) ∨ (i < M ∧ ∃ ρ1, t ρ = .ok true ρ1 ∧ ∃ ρ2, (p ρ1 = .nx ρ2 ∨ p ρ1 = .cnt ρ2) ∧ I (i + 1) ρ2)) :
    ∀ (n i : Nat) (ρ : Rho), M < i + n → i ≤ M → I i ρ → ∃ j ρ', i ≤ j ∧ j ≤ M ∧ J j ρ' ∧ whileRun t p n ρ = .nx ρ'
  | 0, i, ρ, h1, h2, _ => absurd h1 (by omega)
  | n + 1, i, ρ, h1, h2, hI => by
    rcases hs i ρ h2 hI with ⟨ρ1, e, hj⟩ | ⟨hlt, ρ1, e, ρ2, hb, h3⟩
    · refine ⟨i, ρ1, Nat.le_refl i, h2, hj, ?_⟩
      unfold whileRun
      rw [e]
      rfl
    · obtain ⟨j, ρ', a1, a2, a3, a4⟩ := while_inv I J M hs n (i + 1) ρ2 (by omega) hlt h3
      refine ⟨j, ρ', by omega, a2, a3, ?_⟩
      unfold whileRun
      rw [e]
      show whN (whileRun t p n) (p ρ1) = _
      rcases hb with hb | hb <;> (rw [hb]; exact a4)
theorem zhY (n : Nat) (t : XT) (p : XS) (ρ : Rho) : xWhile n t p ρ = whileRun t p n ρ := rfl
end G


set_option maxHeartbeats 4000000
namespace G
open PySem PySem.Spec PyProof.Rows L2

section
variable {X : Cx} {E : EW} {pos : Pos}
end
end G


set_option maxHeartbeats 4000000
namespace G
open PySem PySem.Spec PyProof.Rows L2

end G


set_option maxHeartbeats 4000000
namespace G
open PySem PySem.Spec PyProof.Rows L2

section
variable {X : Cx} {cv : String → Value} {pos : Pos} {W : WX}
end
end G


set_option maxHeartbeats 4000000
namespace G
open PySem PySem.Spec PyProof.Rows L2

def popE (es : List (List Key × D)) (k : List Key) : List (List Key × D) := es.filter fun e => decide (e.1 ≠ k)
theorem RpE.drop {K : PySem.W.Frag} {F : Hp} {k : List Key} : ∀ {kvs : List (List Key × V)} {es : List (List Key × D)}, RpE K F kvs es → RpE K F (dropK kvs k) (popE es k) := by
  intro kvs es h
  have hk := h.keys
  have hv := h.vals
  clear h
  induction kvs generalizing es with
  | nil =>
    cases es with
    | nil => exact RpE.of rfl .nil
    | cons _ _ => simp at hk
  | cons p ps ih =>
    cases es with
    | nil => simp at hk
    | cons e es =>
      simp only [List.map_cons, List.cons.injEq] at hk
      cases hv with
      | cons v1 v2 =>
        have r := ih hk.2 v2
        have eD : dropK (p :: ps) k = if p.1 = k then dropK ps k else p :: dropK ps k := by
          unfold dropK
          by_cases z : p.1 = k <;> simp [List.filter_cons, z]
        have eE : popE (e :: es) k = if p.1 = k then popE es k else e :: popE es k := by
          unfold popE
          rw [hk.1]
          by_cases z : e.1 = k <;> simp [List.filter_cons, z]
        rw [eD, eE]
        by_cases z : p.1 = k
        · rw [if_pos z, if_pos z]; exact r
        · rw [if_neg z, if_neg z]
          exact RpE.of (by simp only [List.map_cons, hk.1, r.keys]) (.cons v1 r.vals)
section
variable {X : Cx} {E : EW} {pos : Pos}
end

section
variable {X : Cx} {E : EW}
end
section
variable (ρ : Rho) (i : Nat) (ta tb : XV)
end
end G


set_option maxHeartbeats 4000000
namespace G
open PySem PySem.Spec PyProof.Rows L2

def mB (es : List (Key × D)) (c : Int) : Bool := (lk es (.inl c)).isSome
def Tb (es : List (Key × D)) (S : Int → Prop) (n : Nat) : Prop := (∀ c : Int, mB es c = true ↔ S c) ∧ es.length ≤ n
theorem Tb.nil : Tb [] (fun _ => False) 0 := ⟨fun c => ⟨fun h => (by cases h), fun h => h.elim⟩, Nat.le_refl _⟩
theorem lk_ptK (es : List (Key × D)) (k : Key) (d : D) (j : Key) : lk (pt es k d) j = if j = k then some d else lk es j := lkA_pt es k d j
theorem Tb.pt {es : List (Key × D)} {S : Int → Prop} {n : Nat} (h : Tb es S n) (c : Int) (d : D) : Tb (pt es (.inl c) d) (fun x => S x ∨ x = c) (n + 1) := by
  refine ⟨fun x => ?_, Nat.le_trans (ptA_len es (.inl c) d) (Nat.succ_le_succ h.2)⟩
  unfold mB
  rw [lk_ptK]
  by_cases e : x = c
  · subst e
    rw [if_pos rfl]
    exact ⟨fun _ => .inr rfl, fun _ => rfl⟩
  · rw [if_neg (fun z => e (by cases z; rfl))]
    rw [show ((lk es (.inl x)).isSome = true ↔ S x) from h.1 x]
    exact ⟨.inl, fun z => z.elim id fun z => absurd z e⟩
theorem Tb.mono {es : List (Key × D)} {S T : Int → Prop} {n m : Nat} (h : Tb es S n) (hS : ∀ c, S c ↔ T c) (hn : n ≤ m) : Tb es T m := ⟨fun c => (h.1 c).trans (hS c), Nat.le_trans h.2 hn⟩
end G


set_option maxHeartbeats 4000000
namespace G
open PySem PySem.Spec PyProof.Rows L2

theorem atI_at {α : Type} (f : α → D) {l : List α} {i : Nat} {c : α} (h : l[i]? = some c) : atI (l.map f) (i : Int) = some (f c) := atI_nat (by rw [List.getElem?_map, h]; rfl)
end G


set_option maxHeartbeats 4000000
namespace G
open PySem PySem.Spec PyProof.Rows L2

section
variable {X : Cx} {E : EW}
end
end G


set_option maxHeartbeats 4000000
namespace G
open PySem PySem.Spec PyProof.Rows L2

section
variable {K : PySem.W.Frag} {F H : Hp} {ρ : Rho} {σ : L2.St}
/-- where nothing is owned all that is known stays -/
theorem Go.stays {ρ' : Rho} {σ' : L2.St} {F' H' : Hp} (r : Rel K F H ρ σ) (no : ∀ p, ¬ Own ρ σ p) (g : Go K ρ σ F H ρ' σ' F' H') : Same H H' := fun a o h => g.sameH r h (no a)
end
section
variable {X : Cx} {E : EW} {fr : Bool} {pos pos2 : Pos}
end
section
variable (ρ : Rho) (h j : Nat) (ti : XA) (tt : XT) (tb : XS)
end
end G


set_option maxHeartbeats 4000000
namespace G
open PySem PySem.Spec PyProof.Rows L2

section
variable {P : Program} {w : World} {A : Around} {E : Value → Shared → Prop} {s : Shared}
end
section
variable {X : Cx} {E : EW} {pos : Pos}
end
section
variable (ρ : Rho) (i : Nat)
end
end G


set_option maxHeartbeats 4000000
namespace G
open PySem PySem.Spec PyProof.Rows L2

section
variable {K : PySem.W.Frag} {F H : Hp} {ρ : Rho} {σ : L2.St}
theorem Ro.rp {p : Addr} {o : HO} {d : D} (f : F p = none) (r : Ro K F p o d) : Rp K (upd F p o) (.ref p) d := ro_rp f r
end
/-- a text that changes lists of what slot i holds, and nothing else; slot j may be set -/
def Mut (K : PySem.W.Frag) (i j : Nat) (m : D → Bool) (u : TS) : Prop := ∀ (F2 H : Hp) (σ : L2.St) (v : V) (d : D) (C : Ends), σ[i]? = some (some v) → j < σ.length → Rp K F2 v d → Same F2 H → m d = true →
  (∀ o H', (∀ a w, H a = some w → (∀ xs, F2 a ≠ some (.lst xs)) → H' a = some w) → C.nx (σ.set j o) H') → u C σ H
section
variable {X : Cx} {cv : String → Value} {pos pos2 : Pos} {W : WX} {fr : Bool}
end
section
variable {K : PySem.W.Frag} {E : EW}
end
section
variable (ρ : Rho) (i j : Nat) (md : List Bool) (g : DF) (t : XA) (tt : XT) (tb : XS) (m : D → Bool)
end
end G


set_option maxHeartbeats 4000000
namespace G
open PySem PySem.Spec PyProof.Rows L2

end G


set_option maxHeartbeats 4000000
namespace G
open PySem PySem.Spec PyProof.Rows L2

section
variable {K : PySem.W.Frag} {F H F1 H1 H2 : Hp} {ρ ρ1 : Rho} {σ σ1 : L2.St}
end
/-- what ts comes to, wherever slot i's object stands -/
noncomputable def unifA (i : Nat) (f : Addr → Fl) : Option Rho := @dite _ (∃ ρ2 : Rho, ρ2[i]? = some .emp ∧ ∀ a, f a = .nx (ρ2.set i (.adr a))) (Classical.propDecidable _) (fun h => some (Classical.choose h)) fun _ => none
theorem unifA_of {i : Nat} {f : Addr → Fl} {ρ2 : Rho} (he : ρ2[i]? = some .emp) (h : ∀ a, f a = .nx (ρ2.set i (.adr a))) : unifA i f = some ρ2 := by
  unfold unifA
  have hx : ∃ ρ2 : Rho, ρ2[i]? = some .emp ∧ ∀ a, f a = .nx (ρ2.set i (.adr a)) := ⟨ρ2, he, h⟩
  rw [dif_pos hx]
  obtain ⟨h1, h2⟩ := Classical.choose_spec hx
  generalize Classical.choose hx = ρ3 at h1 h2 ⊢
  have e := (h2 0).symm.trans (h 0)
  have e : ρ3.set i (.adr 0) = ρ2.set i (.adr 0) := by injection e
  have e2 : (ρ3.set i (.adr 0)).set i .emp = (ρ2.set i (.adr 0)).set i .emp := by rw [e]
  rw [List.set_set, List.set_set] at e2
  have back : ∀ ρ : Rho, ρ[i]? = some .emp → ρ.set i .emp = ρ := fun ρ q => by
    obtain ⟨hi, q⟩ := List.getElem?_eq_some_iff.mp q
    rw [← q]
    exact List.set_getElem_self hi
  rw [back _ h1, back _ he] at e2
  rw [e2]
theorem unifA_spec {i : Nat} {f : Addr → Fl} {ρ2 : Rho} (h : unifA i f = some ρ2) : ρ2[i]? = some .emp ∧ ∀ a, f a = .nx (ρ2.set i (.adr a)) := by
  unfold unifA at h
  by_cases hx : ∃ ρ2 : Rho, ρ2[i]? = some .emp ∧ ∀ a, f a = .nx (ρ2.set i (.adr a))
  · rw [dif_pos hx] at h
    cases h
    exact Classical.choose_spec hx
  · rw [dif_neg hx] at h
    cases h
section
variable {K : PySem.W.Frag} {E : EW} {fr : Bool}
end
section
variable {X : Cx} {E : EW} {fr : Bool} {pos pos2 : Pos}
end
section
variable (ρ : Rho) (i j : Nat) (te t1 t2 : XV) (ts : XS) (tt : XT) (tb : XS) (m : D → Bool)
end
end G


set_option maxHeartbeats 4000000
namespace G
open PySem PySem.Spec PyProof.Rows L2

section
variable {K : PySem.W.Frag} {E : EW}
/-- where the loop stands: the two lists at a0, a1, the tuple at p -/
structure T2 (K : PySem.W.Frag) (ρ0 : Rho) (σ0 : L2.St) (F0 H0 : Hp) (i : Nat) (p a0 a1 : Addr) (A B : List D) (ρ : Rho) (σ : L2.St) (F H : Hp) : Prop where
  go : Go K ρ0 σ0 F0 H0 (ρ.set i (.adr p)) σ F H
  n0 : H0 a0 = none
  n1 : H0 a1 = none
  ne : a0 ≠ a1
  hp : H p = some (.tup [.ref a0, .ref a1])
  op : ¬ Own (ρ.set i (.adr p)) σ p
  h0 : ∃ xs, H a0 = some (.lst xs) ∧ RpAll K F xs A
  f0 : F a0 = none
  o0 : ¬ Own (ρ.set i (.adr p)) σ a0
  h1 : ∃ xs, H a1 = some (.lst xs) ∧ RpAll K F xs B
  f1 : F a1 = none
  o1 : ¬ Own (ρ.set i (.adr p)) σ a1
  len : i < ρ.length
  i0 : i ≠ 0
variable {ρ0 ρ ρ1 : Rho} {σ0 σ σ1 : L2.St} {F0 H0 F H F1 H1 : Hp} {i : Nat} {p a0 a1 : Addr} {A B : List D}
theorem T2.slot (t : T2 K ρ0 σ0 F0 H0 i p a0 a1 A B ρ σ F H) : σ[i]? = some (some (.ref p)) := by
  have hl := t.go.rel.len
  rw [List.length_set] at hl
  have hl2 : i < σ.length := by have := t.len; omega
  have hs := List.getElem?_eq_getElem hl2
  have z := t.go.rel.at' i (.adr p) _ (List.getElem?_set_self t.len) hs
  rw [hs]
  generalize σ[i] = o at z ⊢
  cases z
  rfl
theorem own_back2 (r : Rel K F H ρ σ) (g : Go K ρ σ F H ρ1 σ1 F1 H1) {a : Addr} {o : HO} (h : H a = some o) (n : ¬ Own ρ σ a) : ¬ Own ρ1 σ1 a := fun z => by
  rcases g.own a z with z | z
  · exact n z
  · rw [h] at z; cases z
/-- an ordinary step with X in its place -/
theorem T2.step (t : T2 K ρ0 σ0 F0 H0 i p a0 a1 A B ρ σ F H) (r0 : Rel K F0 H0 ρ0 σ0) (hl : i < ρ1.length) (g : Go K (ρ.set i (.adr p)) σ F H (ρ1.set i (.adr p)) σ1 F1 H1) : T2 K ρ0 σ0 F0 H0 i p a0 a1 A B ρ1 σ1 F1 H1 := by
  have r := t.go.rel
  obtain ⟨xs, x1, x2⟩ := t.h0
  obtain ⟨ys, y1, y2⟩ := t.h1
  obtain ⟨k1, k2⟩ := g.keep a0 _ x1 t.f0 t.o0
  obtain ⟨l1, l2⟩ := g.keep a1 _ y1 t.f1 t.o1
  exact ⟨t.go.trans r0 g, t.n0, t.n1, t.ne, g.sameH r t.hp t.op, own_back2 r g t.hp t.op, ⟨xs, k1, x2.mono g.ex⟩, k2 nt_lst, own_back2 r g x1 t.o0, ⟨ys, l1, y2.mono g.ex⟩, l2 nt_lst, own_back2 r g y1 t.o1, hl, t.i0⟩
theorem Rel.noslot (r : Rel K F H (ρ.set i (.adr p)) σ) (h0 : i ≠ 0) (hs : σ[i]? = some (some (.ref p))) : Go K (ρ.set i (.adr p)) σ F H (ρ.set i .emp) σ F H := by
  have g := Go.setSlot (i := i) (s := .emp) (o := some (.ref p)) h0 (fun _ z => by cases z) (fun _ z => by cases z) r .emp
  rw [List.set_set] at g
  have e : σ.set i (some (.ref p)) = σ := by
    obtain ⟨hi, q⟩ := List.getElem?_eq_some_iff.mp hs
    rw [← q]
    exact List.set_getElem_self hi
  rw [e] at g
  exact g
theorem Rel.slotAt (r : Rel K F H ρ σ) (h0 : i ≠ 0) (hs : σ[i]? = some (some (.ref p))) : Go K ρ σ F H (ρ.set i (.adr p)) σ F H := by
  have g := Go.setSlot (i := i) (s := .adr p) (o := some (.ref p)) h0 (fun _ z => by cases z) (fun _ z => by cases z) r .adr
  have e : σ.set i (some (.ref p)) = σ := by
    obtain ⟨hi, q⟩ := List.getElem?_eq_some_iff.mp hs
    rw [← q]
    exact List.set_getElem_self hi
  rw [e] at g
  exact g
theorem T2.view (t : T2 K ρ0 σ0 F0 H0 i p a0 a1 A B ρ σ F H) (he : ρ[i]? = some .emp) : Go K (ρ.set i (.adr p)) σ F H ρ σ F H := by
  have g := t.go.rel.noslot t.i0 t.slot
  have e : ρ.set i .emp = ρ := by
    obtain ⟨hi, q⟩ := List.getElem?_eq_some_iff.mp he
    rw [← q]
    exact List.set_getElem_self hi
  rw [e] at g
  exact g
/-- expressions leave all as it was -/
theorem T2.after (t : T2 K ρ0 σ0 F0 H0 i p a0 a1 A B ρ σ F H) (r0 : Rel K F0 H0 ρ0 σ0) (he : ρ[i]? = some .emp) (g : Go K ρ σ F H ρ1 σ F1 H1) : T2 K ρ0 σ0 F0 H0 i p a0 a1 A B ρ1 σ F1 H1 := by
  have g2 := ((t.view he).trans t.go.rel g).trans t.go.rel (g.rel.slotAt t.i0 t.slot)
  refine t.step r0 ?_ g2
  have h1 := g.rel.len
  have h2 := t.go.rel.len
  rw [List.length_set] at h2
  have := t.len
  omega
end
section
variable {X : Cx} {E : EW} {pos : Pos}
end
section
variable (ρ : Rho) (i j : Nat) (te : XV) (ts : XS) (c1 c2 : XT) (e1 e0 : XV)
end
end G


set_option maxHeartbeats 4000000
namespace G
open PySem PySem.Spec PyProof.Rows L2

section
variable {K : PySem.W.Frag} {E : EW} {fr : Bool}
end
section
variable {K : PySem.W.Frag} {E : EW}
end
section
variable {X : Cx} {cv : String → Value} {pos pos2 pos3 : Pos} {W : WX} {fr : Bool}
end
end G


set_option maxHeartbeats 4000000
namespace G
open PySem PySem.Spec PyProof.Rows L2

section
variable {X : Cx} {pins : List (Addr × Obj)} {σ : L2.St} {H : Hp} {s : Shared}
end
section
variable {X : Cx} {x n : Str} {c : Value} {i : Nat} {body suite : List Stmt} {b₀ : Stmt} {np pos pos' : Pos} {tb : WX → TS} {ts : Addr → TS} {Wout : WX}
end
section
variable {X : Cx} {E : EW} {fr : Bool} {cv : String → Value} {pos : Pos}
end
section
variable {K : PySem.W.Frag} {C : Addr} {t : Value} {b : Bool}
end
section
variable (ρ : Rho) (i : Nat)
end
end G


set_option maxHeartbeats 4000000
namespace G
open PySem PySem.Spec PyProof.Rows L2

def putD (f : Str) (d : D) : List (Str × D) → List (Str × D)
  | [] => [(f, d)]
  | (g, x) :: r => if g = f then (g, d) :: r else (g, x) :: putD f d r
theorem look_rel {K : PySem.W.Frag} {F : Hp} {f : Str} : ∀ {fs : List (Str × V)} {es : List (Str × D)}, fs.map (·.1) = es.map (·.1) → RpAll K F (fs.map (·.2)) (es.map (·.2)) → (∀ d, es.lookup f = some d → ∃ v, fs.lookup f = some v ∧ Rp K F v d) ∧ (es.lookup f = none → fs.lookup f = none)
  | [], [], _, _ => ⟨fun _ e => (nomatch e), fun _ => rfl⟩
  | (g, x) :: fs, (h, y) :: es, k, r => by
    rw [List.map_cons, List.map_cons] at k
    injection k with k1 k2
    have k1 : g = h := k1
    subst k1
    cases r with
    | cons r1 r2 =>
      obtain ⟨q1, q2⟩ := look_rel (f := f) k2 r2
      simp only [List.lookup_cons]
      cases e : f == g with
      | true => exact ⟨fun d e => by cases e; exact ⟨x, rfl, r1⟩, fun e => by cases e⟩
      | false => exact ⟨q1, q2⟩
  | [], _ :: _, k, _ => by cases k
  | _ :: _, [], k, _ => by cases k
/-- field f of an instance of the class c -/
def dFld (c : String) (f : Str) : D → Option D
  | .inst c' fs => if c' = c then fs.lookup f else none
  | _ => none
theorem fld_ra {K : PySem.W.Frag} {F H : Hp} {v : V} {x d : D} {c : String} {f : Str} {C : Addr} (hc : ClsAt K c C) (ex : Same F H) (r : Ra K F H v x) (e : dFld c f x = some d) : ∃ a dx fs u, v = .ref a ∧ H a = some (.ins C dx fs) ∧ fs.lookup f = some u ∧ Rp K F u d := by
  cases r with
  | val r _ =>
    cases r with
    | inst h1 h2 h3 h4 =>
      unfold dFld at e
      dsimp only at e
      split at e
      · rename_i hcc
        subst hcc
        obtain rfl := hc.uniq h1
        obtain ⟨u, k1, k2⟩ := (look_rel h3 h4).1 d e
        exact ⟨_, _, _, u, rfl, ex _ _ h2, k1, k2⟩
      · cases e
    | _ => cases e
  | own h1 h2 ro =>
    cases ro with
    | ins h3 h4 h5 =>
      unfold dFld at e
      dsimp only at e
      split at e
      · rename_i hcc
        subst hcc
        obtain rfl := hc.uniq h3
        obtain ⟨u, k1, k2⟩ := (look_rel h4 h5).1 d e
        exact ⟨_, _, _, u, rfl, h2, k1, k2⟩
      · cases e
    | _ => cases e
theorem nofx_fld {c : String} {f : Str} {x d : D} (e : dFld c f x = some d) : nofx x = true := by
  cases x with
  | inst _ _ => rfl
  | _ => cases e
section
variable {X : Cx} {E : EW} {fr : Bool} {cv : String → Value} {W : WX} {pos : Pos}
/-- o.f -/
theorem xe_fld {c : String} {C : Addr} {f : Str} {o : Expr} {te : XV} (hc : ClsAt X.K c C) (cl : Cls X.K C) (na : NoAttr X.K C f) (he : PE X o (lE X.K E te)) (hb : attributeBase o f X.env (eval o X.env) = eval o X.env := by rfl) : PE X (.Attribute o f pos) (lE X.K E (xOp1 (dFld c f) te)) := by
  refine pe_imp (pe_fld he hb) fun σ H Q h => ?_
  obtain ⟨F, ρ, r, p⟩ := h
  refine ⟨F, ρ, r, (Pend.bind r p).mono fun x ρ1 F1 H1 g1 q v rv => ?_⟩
  obtain ⟨d, e, q⟩ := q.lift
  obtain ⟨a, dx, fs, u, k1, k2, k3, k4⟩ := fld_ra hc g1.rel.ex (.val rv (nofx_fld e)) e
  exact ⟨a, C, dx, fs, u, k1, k2, cl, na, k3, q F1 H1 (Go.refl g1.rel) u k4⟩
def tMethS (C : Addr) (m : Str) (sp : Sp) (E : L2.St → XK) (ta : TE) (t : TA) : TE := fun σ H Q => ta σ H fun x H1 => ∃ a dx fs, x = .ref a ∧ H1 a = some (.ins C dx fs) ∧ fs.lookup m = none ∧ t σ H1 fun vs H2 => sp (x :: vs) H2 Q (E σ)
theorem pe_methS {CX : CXT} {k : Nat} {C f : Addr} {fd : FuncData} {ps : List Str} {sp : Sp} {E' : L2.St → XK} {m : Str} {o e : Expr} {es : List Expr} {ta : TE} {t : TA} {apos : Pos} {pl : Sem Bool} (he : PE X o ta) (c : Cls X.K C) (hm : Meth X.K C m f) (FN : FnOk X.prog X.w X.K X.mg X.base CX k f fd ps sp) (hr : Room k X.A) (hb : Binds X.K fd ps []) (hx : ∀ σ, PassesAt CX X σ (E' σ)) (ha : PA X (e :: es) t)
    (hst : starEach (e :: es) X.env = (false, eval e X.env) :: starEach es X.env := by rfl) (hpl : (backTo pos (starEach es X.env)).any (·.1) = false := by rfl)
    (ht : eval (.Call (.Attribute o m apos) (e :: es) [] pos) X.env = (do
      let w ← eval o X.env
      standAt apos.atName
      let (g, first) ← holding [w] (getMethod w m pl)
      callWith pos g first (backTo pos (starEach (e :: es) X.env)) (backToKw pos (keywordEach [] X.env))) := by rfl) : PE X (.Call (.Attribute o m apos) (e :: es) [] pos) (tMethS C m sp E' ta t) := by
  constructor
  intro pins s σ H Q I h
  refine PySem.W.methodCall_KW (pl := pl) (thn (he.run pins s σ H _ I h) fun u s1 hu => ?_) ht
  obtain ⟨x, H1, I1, rx, a, dx, fs, rfl, ea, l, q⟩ := hu
  obtain rfl : u = Value.ref a := rx
  refine getmeth_ok I1 ea c hm l (PySem.W.callWith_K (first := [.ref a]) (h₀ := X.base) I.ok.mod.kin hm.kp (thn (ha.run pos pins s1 σ H1 _ I1 q) fun us s2 hv => ?_) hst hpl)
  obtain ⟨vs, H2, I2, r, q2⟩ := hv
  exact ⟨I2.kIn, run_fnS (us := .ref a :: us) (vs := .ref a :: vs) FN hr hb (hx σ) I2 (.cons rfl r) q2⟩
theorem pe_methS0 {CX : CXT} {k : Nat} {C f : Addr} {fd : FuncData} {ps : List Str} {sp : Sp} {E' : L2.St → XK} {m : Str} {o : Expr} {ta : TE} {apos : Pos} {pl : Sem Bool} (he : PE X o ta) (c : Cls X.K C) (hm : Meth X.K C m f) (FN : FnOk X.prog X.w X.K X.mg X.base CX k f fd ps sp) (hr : Room k X.A) (hb : Binds X.K fd ps []) (hx : ∀ σ, PassesAt CX X σ (E' σ))
    (ht : eval (.Call (.Attribute o m apos) [] [] pos) X.env = (do
      let w ← eval o X.env
      standAt apos.atName
      let (g, first) ← holding [w] (getMethod w m pl)
      callWith pos g first (backTo pos (starEach [] X.env)) (backToKw pos (keywordEach [] X.env))) := by rfl) : PE X (.Call (.Attribute o m apos) [] [] pos) (tMethS C m sp E' ta tNil) := by
  constructor
  intro pins s σ H Q I h
  refine PySem.W.methodCall_KW (pl := pl) (thn (he.run pins s σ H _ I h) fun u s1 hu => ?_) ht
  obtain ⟨x, H1, I1, rx, a, dx, fs, rfl, ea, l, q⟩ := hu
  obtain rfl : u = Value.ref a := rx
  exact getmeth_ok I1 ea c hm l (PySem.W.callWith_K0 (first := [.ref a]) I1.kIn hm.kp (run_fnS (us := [.ref a]) (vs := [.ref a]) FN hr hb (hx σ) I1 (.cons rfl .nil) q))
/-- an instance of c without a field m -/
def isIns (c : String) (m : Str) : D → Bool
  | .inst c' fs => decide (c' = c) && (fs.lookup m).isNone
  | _ => false
theorem isIns_of {c : String} {m : Str} {x : D} {C : Addr} {K : PySem.W.Frag} {F H : Hp} {v : V} (hc : ClsAt K c C) (ex : Same F H) (h : isIns c m x = true) (r : Rp K F v x) : ∃ a dx fs, v = .ref a ∧ H a = some (.ins C dx fs) ∧ fs.lookup m = none := by
  cases r with
  | inst h1 h2 h3 h4 =>
    unfold isIns at h
    rw [Bool.and_eq_true, decide_eq_true_eq] at h
    obtain ⟨rfl, hn⟩ := h
    obtain rfl := hc.uniq h1
    exact ⟨_, _, _, rfl, ex _ _ h2, (look_rel h3 h4).2 (Option.isNone_iff_eq_none.mp hn)⟩
  | _ => cases h
def meth2 (g : DF) (d : D) : List D → Rho → Res D := fun ds ρ => (g (d :: ds)).res ρ
def meth1 (c : String) (m : Str) (g : DF) (t : XA) : D → Rho → Res D := fun d ρ => if isIns c m d = true then (t ρ).bind (meth2 g d) else .bad
/-- o.m(..) -/
def xMeth (c : String) (m : Str) (g : DF) (te : XV) (t : XA) : XV := fun ρ => (te ρ).bind (meth1 c m g t)
theorem meth_of {frc : Bool} {c : String} {m : Str} {C : Addr} {ban : Nat} {md : List Bool} {g : DF} {te : XV} {t : XA} {σ : L2.St} {H : Hp} {Q : VK} (hc : ClsAt X.K c C)
    (h : ∃ F ρ, Rel X.K F H ρ σ ∧ Pend X.K (EWx cv W) (xMeth c m g te t) ρ σ F H fun d ρ' F' H' => (frc = false → ∀ v, Rp X.K F' v d → Q v H') ∧ (frc = true → ∀ p o, F' p = none → H' p = some o → Ro X.K F' p o d → ¬ Own ρ' σ p → (Own ρ σ p ∨ H p = none) → Q (.ref p) H')) :
    tMethS C m (spP X.K cv frc (false :: md) g) (WE W) (lE X.K (EWx cv W) te) (lM X.K (EWx cv W) ban md t) σ H Q := by
  obtain ⟨F, ρ, r, p⟩ := h
  refine ⟨F, ρ, r, (Pend.bind r p).mono fun x ρ1 F1 H1 g1 q v rv => ?_⟩
  by_cases hi : isIns c m x = true
  rotate_left
  · unfold Pend meth1 at q
    simp only [hi] at q
    exact q.elim
  obtain ⟨a, dx, fs, rfl, k2, k3⟩ := isIns_of hc g1.rel.ex hi rv
  have q' : Pend X.K (EWx cv W) (fun ρ => (t ρ).bind (meth2 g x)) ρ1 σ F1 H1 fun d ρ' F' H' => (frc = false → ∀ v, Rp X.K F' v d → Q v H') ∧ (frc = true → ∀ p o, F' p = none → H' p = some o → Ro X.K F' p o d → ¬ Own ρ' σ p → (Own ρ σ p ∨ H p = none) → Q (.ref p) H') := by
    unfold Pend meth1 at q
    simp only [hi, if_true] at q
    exact q
  refine ⟨a, dx, fs, rfl, k2, k3, F1, ρ1, g1.rel, (Pend.bind g1.rel q').mono fun ds ρ2 F2 H2 g2 q2 vs ra => ⟨F2, x :: ds, g2.rel.ex, .val (rv.mono g2.ex) (ra.ral g2.rel), ?_⟩⟩
  unfold Pend meth2 FR.res at q2
  cases e : g (x :: ds) with
  | ok d ps =>
    simp only [e] at q2
    exact ⟨fun ef => outV_of g2.rel fun F' H' g3 v rv => (q2 F' H' g3).1 ef v rv, fun ef => outN_of r (g1.trans r g2) fun F' H' g3 p o z1 z2 z3 z4 z5 => (q2 F' H' g3).2 ef p o z1 z2 z3 z4 z5⟩
  | exc c ps => simp only [e] at q2; exact fun F' H' gr => q2 F' H' (gr.go g2.rel)
  | bad => simp only [e] at q2
theorem lE_meth {c : String} {m : Str} {g : DF} {te : XV} {t : XA} {σ : L2.St} {H : Hp} {Q : VK} (h : lE X.K (EWx cv W) (xMeth c m g te t) σ H Q) : ∃ F ρ, Rel X.K F H ρ σ ∧ Pend X.K (EWx cv W) (xMeth c m g te t) ρ σ F H fun d ρ' F' H' => (false = false → ∀ v, Rp X.K F' v d → Q v H') ∧ (false = true → ∀ p o, F' p = none → H' p = some o → Ro X.K F' p o d → ¬ Own ρ' σ p → (Own ρ σ p ∨ H p = none) → Q (.ref p) H') := by
  obtain ⟨F, ρ, r, p⟩ := h
  exact ⟨F, ρ, r, p.mono fun d ρ' F' H' _ q => ⟨fun _ => q, fun z => (by cases z)⟩⟩
theorem lN_meth {c : String} {m : Str} {g : DF} {te : XV} {t : XA} {σ : L2.St} {H : Hp} {Q : VK} (h : lN X.K (EWx cv W) (xMeth c m g te t) σ H Q) : ∃ F ρ, Rel X.K F H ρ σ ∧ Pend X.K (EWx cv W) (xMeth c m g te t) ρ σ F H fun d ρ' F' H' => (true = false → ∀ v, Rp X.K F' v d → Q v H') ∧ (true = true → ∀ p o, F' p = none → H' p = some o → Ro X.K F' p o d → ¬ Own ρ' σ p → (Own ρ σ p ∨ H p = none) → Q (.ref p) H') := by
  obtain ⟨F, ρ, r, p⟩ := h
  exact ⟨F, ρ, r, p.mono fun d ρ' F' H' _ q => ⟨fun z => (by cases z), fun _ => q⟩⟩
theorem nilM {C : Addr} {m : Str} {ban : Nat} {E : EW} {sp : Sp} {E' : L2.St → XK} {ta : TE} {σ : L2.St} {H : Hp} {Q : VK} (mono : ∀ σ H Q Q', ta σ H Q → (∀ v H', Q v H' → Q' v H') → ta σ H Q') (h : tMethS C m sp E' ta (lM X.K E ban [] xNil) σ H Q) : tMethS C m sp E' ta tNil σ H Q := by
  refine mono _ _ _ _ h fun v H1 q => ?_
  obtain ⟨a, dx, fs, e, k1, k2, F, ρ, r, p⟩ := q
  exact ⟨a, dx, fs, e, k1, k2, p F H1 (Go.refl r) [] .nil⟩
theorem lE_mono {te : XV} {E : EW} {σ : L2.St} {H : Hp} {Q Q' : VK} (h : lE X.K E te σ H Q) (k : ∀ v H', Q v H' → Q' v H') : lE X.K E te σ H Q' := by
  obtain ⟨F, ρ, r, p⟩ := h
  exact ⟨F, ρ, r, p.mono fun d ρ' F' H' _ q v rv => k v H' (q v rv)⟩
section
variable {c : String} {C : Addr} {ban : Nat} {md : List Bool} {k : Nat} {f : Addr} {fd : FuncData} {ps : List Str} {g : DF} {m : Str} {o e : Expr} {es : List Expr} {te : XV} {t : XA} {apos : Pos} {pl : Sem Bool}
theorem xn_meth (hc : ClsAt X.K c C) (cl : Cls X.K C) (hm : Meth X.K C m f) (tk : Takes X W) (FN : FnOk X.prog X.w X.K X.mg X.base (L2.CX X.prog X.w) k f fd ps (spP X.K cv true (false :: md) g)) (hr : Room k X.A) (hb : Binds X.K fd ps []) (he : PE X o (lE X.K (EWx cv W) te)) (ha : PA X (e :: es) (lM X.K (EWx cv W) ban md t))
    (hst : starEach (e :: es) X.env = (false, eval e X.env) :: starEach es X.env := by rfl) (hpl : (backTo pos (starEach es X.env)).any (·.1) = false := by rfl)
    (ht : eval (.Call (.Attribute o m apos) (e :: es) [] pos) X.env = (do
      let w ← eval o X.env
      standAt apos.atName
      let (g, first) ← holding [w] (getMethod w m pl)
      callWith pos g first (backTo pos (starEach (e :: es) X.env)) (backToKw pos (keywordEach [] X.env))) := by rfl) : PE X (.Call (.Attribute o m apos) (e :: es) [] pos) (lN X.K (EWx cv W) (xMeth c m g te t)) :=
  pe_imp (pe_methS (pl := pl) he cl hm FN hr hb (passAt tk) ha hst hpl ht) fun σ H Q h => meth_of hc (lN_meth h)
theorem xe_meth0 (hc : ClsAt X.K c C) (cl : Cls X.K C) (hm : Meth X.K C m f) (tk : Takes X W) (FN : FnOk X.prog X.w X.K X.mg X.base (L2.CX X.prog X.w) k f fd ps (spP X.K cv false [false] g)) (hr : Room k X.A) (hb : Binds X.K fd ps []) (he : PE X o (lE X.K (EWx cv W) te))
    (ht : eval (.Call (.Attribute o m apos) [] [] pos) X.env = (do
      let w ← eval o X.env
      standAt apos.atName
      let (g, first) ← holding [w] (getMethod w m pl)
      callWith pos g first (backTo pos (starEach [] X.env)) (backToKw pos (keywordEach [] X.env))) := by rfl) : PE X (.Call (.Attribute o m apos) [] [] pos) (lE X.K (EWx cv W) (xMeth c m g te xNil)) :=
  pe_imp (pe_methS0 (pl := pl) he cl hm FN hr hb (passAt tk) ht) fun σ H Q h => nilM (ban := 0) (fun _ _ _ _ h k => lE_mono h k) (meth_of hc (lE_meth h))
theorem xn_meth0 (hc : ClsAt X.K c C) (cl : Cls X.K C) (hm : Meth X.K C m f) (tk : Takes X W) (FN : FnOk X.prog X.w X.K X.mg X.base (L2.CX X.prog X.w) k f fd ps (spP X.K cv true [false] g)) (hr : Room k X.A) (hb : Binds X.K fd ps []) (he : PE X o (lE X.K (EWx cv W) te))
    (ht : eval (.Call (.Attribute o m apos) [] [] pos) X.env = (do
      let w ← eval o X.env
      standAt apos.atName
      let (g, first) ← holding [w] (getMethod w m pl)
      callWith pos g first (backTo pos (starEach [] X.env)) (backToKw pos (keywordEach [] X.env))) := by rfl) : PE X (.Call (.Attribute o m apos) [] [] pos) (lN X.K (EWx cv W) (xMeth c m g te xNil)) :=
  pe_imp (pe_methS0 (pl := pl) he cl hm FN hr hb (passAt tk) ht) fun σ H Q h => nilM (ban := 0) (fun _ _ _ _ h k => lE_mono h k) (meth_of hc (lN_meth h))
end
def tMakeS (C : Addr) (sp : Sp) (E : L2.St → XK) (t : TA) : TE := fun σ H Q => t σ H fun vs H1 => ∀ x dx, H1 x = none → H1 dx = none → dx ≠ x → sp (.ref x :: vs) (upd (upd H1 dx (.own x)) x (.ins C dx [])) (fun v H2 => v = .non ∧ Q (.ref x) H2) (E σ)
theorem run_makeS {CX : CXT} {k : Nat} {C f : Addr} {fd : FuncData} {ps : List Str} {sp : Sp} {E' : L2.St → XK} {pins : List (Addr × Obj)} {σ : L2.St} {H : Hp} {s : Shared} {Q : VK} {us : List Value} {vs : List V} (M : Mk X.K C f) (FN : FnOk X.prog X.w X.K X.mg X.base CX k f fd ps sp) (hr : Room (k + 1) X.A) (hb : Binds X.K fd ps []) (hx : PassesAt CX X σ (E' σ)) (I : L2.Inv X pins σ H s) (r : Vals vs us)
    (h : ∀ x dx, H x = none → H dx = none → dx ≠ x → sp (.ref x :: vs) (upd (upd H dx (.own x)) x (.ins C dx [])) (fun v H2 => v = .non ∧ Q (.ref x) H2) (E' σ)) : wpAny (model X.prog X.w) X.A (call (.ref C) us) (EP X pins σ Q) X.xe s := by
  have I2 := Inv.made (C := C) I
  have sp0 := h _ _ (I.hok.fresh (Nat.le_succ _)) (I.hok.fresh (Nat.le_refl _)) (Nat.ne_of_lt (Nat.lt_succ_self _))
  have rv : Vals (V.ref (s.heap.objs.size + 1) :: vs) (Value.ref (s.heap.objs.size + 1) :: us) := .cons rfl r
  have hl : (Value.ref (s.heap.objs.size + 1) :: us).length = ps.length := by rw [← rv.length]; exact FN.len _ _ _ _ sp0
  have bd := hb _ (Value.ref (s.heap.objs.size + 1) :: us) I2.kIn (by rw [List.append_nil]; exact hl)
  rw [List.append_nil] at bd
  refine wpAny_call (make_map (f := f) I.kIn M.makes M.init (beq_iff_eq.mp M.fn) (codeAny_mono (FN.run _ X.stack _ _ ⟨Value.ref (s.heap.objs.size + 1) :: us, []⟩ _ _ _ _ (hr.make C us []) (I2.env0.make C us []) bd rv sp0) fun res s' hres => ?_))
  rcases res with e | fl
  · exact hx pins _ _ e s' I2 hres
  · cases fl with
    | ret u =>
      obtain ⟨v, H', I3, ru, rfl, q⟩ := I2.after hres
      exact ⟨ru, ⟨V.ref (s.heap.objs.size + 1), H', I3, rfl, q⟩⟩
    | next => exact hres.elim
    | brk => exact hres.elim
    | cont => exact hres.elim
theorem pe_makeS {CX : CXT} {k : Nat} {C f : Addr} {fd : FuncData} {ps : List Str} {sp : Sp} {E' : L2.St → XK} {x : Str} {p : Pos} {e : Expr} {es : List Expr} {t : TA} (M : Mk X.K C f) (FN : FnOk X.prog X.w X.K X.mg X.base CX k f fd ps sp) (hr : Room (k + 1) X.A) (hg : Gl X x) (hm : X.mg x = some (.ref C)) (hb : Binds X.K fd ps []) (hx : ∀ σ, PassesAt CX X σ (E' σ)) (ha : PA X (e :: es) t)
    (hdb : (x == ("__debug__" : Str)) = false := by decide) (he : starEach (e :: es) X.env = (false, eval e X.env) :: starEach es X.env := by rfl) (hpl : (backTo pos (starEach es X.env)).any (·.1) = false := by rfl) : PE X (.Call (.Name x p) (e :: es) [] pos) (tMakeS C sp E' t) := by
  constructor
  intro pins s σ H Q I h
  refine wpAny_Call_Name_kw (ld_glob I hg hm (PySem.W.callWith_K (h₀ := X.base) I.ok.mod.kin M.kp (thn (ha.run pos pins s σ H _ I h) fun us s1 hv => ?_) he hpl) hdb)
  obtain ⟨vs, H1, I1, r, q⟩ := hv
  exact ⟨I1.kIn, run_makeS M FN hr hb (hx σ) I1 r q⟩
end
section
variable (ρ : Rho) (i : Nat) (te : XV) (t : XA)
theorem zjl (c : String) (m : Str) (g : DF) : xMeth c m g te t ρ = (te ρ).bind (meth1 c m g t) := rfl
theorem zjm (g : DF) (d : D) (ds : List D) : meth2 g d ds ρ = (g (d :: ds)).res ρ := rfl
end
end G


set_option maxHeartbeats 4000000
namespace G
open PySem PySem.Spec PyProof.Rows L2

def rgOk (a b : Int) : Bool := decide (-1000000 ≤ a ∧ a ≤ 1000000 ∧ -1000000 ≤ b ∧ b ≤ 1000000)
theorem rgOk_of {a b : Int} (h : rgOk a b = true) : RgOk a b := by
  have := of_decide_eq_true h
  exact ⟨by omega, by omega, by omega, by omega, by omega⟩
def dRg2L (x y : D) : Option D := match x, y with
  | .int a, .int b => if rgOk a b = true then some (.lst (rangeD a (b - a).toNat)) else none
  | _, _ => none
section
variable {X : Cx} {E : EW} {pos : Pos}
theorem xn_listR2 {e e2 : Expr} {ta tb : XV} {p p2 pos2 : Pos} (hc : X.calm = true) (hg : Gl X "list") (hm : X.mg "list" = none) (hg2 : Gl X "range") (hm2 : X.mg "range" = none) (ha : PE X e (lE X.K E ta)) (hb : PE X e2 (lE X.K E tb))
    (s1 : starEach [e, e2] X.env = (false, eval e X.env) :: starEach [e2] X.env := by rfl) (s3 : starEach [e2] X.env = (false, eval e2 X.env) :: starEach [] X.env := by rfl) (hp : (backTo pos2 (starEach [e2] X.env)).any (·.1) = false := by rfl) (s2 : starEach [.Call (.Name "range" p2) [e, e2] [] pos2] X.env = (false, eval (.Call (.Name "range" p2) [e, e2] [] pos2) X.env) :: starEach [] X.env := by rfl) :
    PE X (.Call (.Name "list" p) [.Call (.Name "range" p2) [e, e2] [] pos2] [] pos) (lN X.K E (xOp2 dRg2L ta tb)) := by
  refine pe_imp (pe_listRg hc hg hm (prg_2 hg2 hm2 ha hb s1 s3 hp) s2) fun σ H Q h => ?_
  obtain ⟨F, ρ, r, p⟩ := h
  refine ⟨F, ρ, r, (Pend.bind r p).mono fun x ρ1 F1 H1 g1 q v rv => ⟨F1, ρ1, g1.rel, (Pend.bind g1.rel q).mono fun y ρ2 F2 H2 g2 q w rw1 => ?_⟩⟩
  obtain ⟨d, ed, q2⟩ := q.lift
  have o := outN_of r (g1.trans r g2) q2
  unfold dRg2L at ed
  split at ed
  · split at ed
    · rename_i hz
      cases ed
      cases rv
      cases rw1
      exact ⟨_, _, rfl, rfl, rgOk_of hz, fun q hq => o.new g2.rel.ex hq (.lst (rg_all _ _))⟩
    · cases ed
  · cases ed
end
section
variable (ρ : Rho) (i : Nat) (ta tb : XV)
theorem zjr {a b : Int} (h : rgOk a b = true) : dRg2L (.int a) (.int b) = some (.lst (rangeD a (b - a).toNat)) := if_pos h
end
end G


set_option maxHeartbeats 4000000
namespace G
open PySem PySem.Spec PyProof.Rows L2

section
variable {X : Cx}
end
section
variable {X : Cx} {E : EW} {pos : Pos}
end
section
end
end G


set_option maxHeartbeats 4000000
namespace G
open PySem PySem.Spec PyProof.Rows L2

section
variable {X : Cx} {E : EW} {pos : Pos}
end
end G


set_option maxHeartbeats 4000000
namespace G
section
open PySem PySem.W PySem.Calls PyProof.Rows PyProof.V PySem.Spec
variable {prog : Program} {w : World} {A : Around} {E : Value → Shared → Prop} {s : Shared}
end
section
open PySem PySem.Spec PyProof.Rows L2
variable {X : Cx}
end
open PySem PySem.Spec PyProof.Rows L2
end G


set_option maxHeartbeats 4000000
namespace G
section
open PySem PySem.W PySem.Calls PyProof.Rows PyProof.V PySem.Spec L2
variable {prog : Program} {w : World} {A : Around} {E : Value → Shared → Prop} {s : Shared}
end
section
open PySem PySem.Spec PyProof.Rows L2
end
end G


set_option maxHeartbeats 4000000
namespace G
open PySem PySem.Spec PyProof.Rows L2
section
variable {X : Cx} {E : EW} {pos : Pos}
theorem RpAll.erase {K : PySem.W.Frag} {F : Hp} : ∀ {vs : List V} {ds : List D} (n : Nat), RpAll K F vs ds → RpAll K F (vs.eraseIdx n) (ds.eraseIdx n)
  | _, _, _, .nil => by rw [List.eraseIdx_nil, List.eraseIdx_nil]; exact .nil
  | _, _, 0, .cons _ r => r
  | _, _, n + 1, .cons a r => .cons a (RpAll.erase n r)
end
section
variable (ρ : Rho) (i n : Nat) (t : XV) (ds : List D) (es : List (List Key × D)) (z : Bool) (d : D) (j : Int)
end
end G


set_option maxHeartbeats 4000000
namespace G
open PySem PySem.Spec PyProof.Rows L2
theorem RpAll.empty {K : PySem.W.Frag} {F : Hp} {xs : List V} {ds : List D} (r : RpAll K F xs ds) : xs.isEmpty = ds.isEmpty := by
  cases r <;> rfl
section
variable {X : Cx} {E : EW} {pos : Pos}
end
section
variable (ρ : Rho) (t u : XV) (d : D)
end
end G


set_option maxHeartbeats 4000000
namespace G
open PySem PySem.Spec PyProof.Rows L2

def ctn (tp : Bool) (vs : List V) : HO := if tp = true then .tup vs else .lst vs
/-- where the region stands: the list or tuple at p, its things at as, flat objects with the data cs -/
structure TG (K : PySem.W.Frag) (ρ0 : Rho) (σ0 : L2.St) (F0 H0 : Hp) (i : Nat) (p : Addr) (tp : Bool) (as : List Addr) (cs : List D) (ρ : Rho) (σ : L2.St) (F H : Hp) : Prop where
  go : Go K ρ0 σ0 F0 H0 (ρ.set i (.adr p)) σ F H
  he : ρ[i]? = some .emp
  np : H0 p = none
  fp : tp = false → F p = none
  hp : H p = some (ctn tp (as.map V.ref))
  op : ¬ Own (ρ.set i (.adr p)) σ p
  nd : as.Nodup
  pa : p ∉ as
  ln : as.length = cs.length
  ch : ∀ (m : Nat) (a : Addr) (d : D), as[m]? = some a → cs[m]? = some d → H0 a = none ∧ F a = none ∧ ¬ Own (ρ.set i (.adr p)) σ a ∧ ∃ o, H a = some o ∧ Ro K F a o d
  i0 : i ≠ 0
section
variable {K : PySem.W.Frag} {ρ0 ρ ρ1 : Rho} {σ0 σ σ1 : L2.St} {F0 H0 F H F1 H1 : Hp} {i : Nat} {p : Addr} {tp : Bool} {as : List Addr} {cs : List D}
theorem TG.lt (t : TG K ρ0 σ0 F0 H0 i p tp as cs ρ σ F H) : i < ρ.length := (List.getElem?_eq_some_iff.mp t.he).1
theorem TG.slot (t : TG K ρ0 σ0 F0 H0 i p tp as cs ρ σ F H) : σ[i]? = some (some (.ref p)) := by
  have hl := t.go.rel.len
  rw [List.length_set] at hl
  have hl2 : i < σ.length := by have := t.lt; omega
  have hs := List.getElem?_eq_getElem hl2
  have z := t.go.rel.at' i (.adr p) _ (List.getElem?_set_self t.lt) hs
  rw [hs]
  generalize σ[i] = o at z ⊢
  cases z
  rfl
/-- an ordinary step with X in its place -/
theorem TG.step (t : TG K ρ0 σ0 F0 H0 i p tp as cs ρ σ F H) (r0 : Rel K F0 H0 ρ0 σ0) (he : ρ1[i]? = some .emp) (g : Go K (ρ.set i (.adr p)) σ F H (ρ1.set i (.adr p)) σ1 F1 H1) : TG K ρ0 σ0 F0 H0 i p tp as cs ρ1 σ1 F1 H1 := by
  have r := t.go.rel
  refine ⟨t.go.trans r0 g, he, t.np, fun h => ?_, g.sameH r t.hp t.op, own_back2 r g t.hp t.op, t.nd, t.pa, t.ln, fun m a d ha hd => ?_, t.i0⟩
  · subst h
    exact (g.keep p _ t.hp (t.fp rfl) t.op).2 nt_lst
  · obtain ⟨x1, x2, x3, o, x4, x5⟩ := t.ch m a d ha hd
    obtain ⟨k1, k2⟩ := g.keep a o x4 x2 x3
    exact ⟨x1, k2 x5.nt, own_back2 r g x4 x3, o, k1, x5.mono g.ex⟩
theorem TG.view (t : TG K ρ0 σ0 F0 H0 i p tp as cs ρ σ F H) : Go K (ρ.set i (.adr p)) σ F H ρ σ F H := by
  have g := t.go.rel.noslot t.i0 t.slot
  have e : ρ.set i .emp = ρ := by
    obtain ⟨hi, q⟩ := List.getElem?_eq_some_iff.mp t.he
    rw [← q]
    exact List.set_getElem_self hi
  rw [e] at g
  exact g
/-- expressions leave all as it was -/
theorem TG.after (t : TG K ρ0 σ0 F0 H0 i p tp as cs ρ σ F H) (r0 : Rel K F0 H0 ρ0 σ0) (he : ρ1[i]? = some .emp) (g : Go K ρ σ F H ρ1 σ F1 H1) : TG K ρ0 σ0 F0 H0 i p tp as cs ρ1 σ F1 H1 :=
  t.step r0 he ((t.view.trans t.go.rel g).trans t.go.rel (g.rel.slotAt t.i0 t.slot))
theorem at_inj {as : List Addr} (h : as.Nodup) : ∀ {m n : Nat} {a : Addr}, as[m]? = some a → as[n]? = some a → m = n := by
  intro m n a h1 h2
  obtain ⟨l1, e1⟩ := List.getElem?_eq_some_iff.mp h1
  obtain ⟨l2, e2⟩ := List.getElem?_eq_some_iff.mp h2
  rcases Nat.lt_trichotomy m n with z | z | z
  · exact absurd (e1.trans e2.symm) (List.pairwise_iff_getElem.mp h m n l1 l2 z)
  · exact z
  · exact absurd (e2.trans e1.symm) (List.pairwise_iff_getElem.mp h n m l2 l1 z)
/-- one thing is changed -/
theorem TG.mut (t : TG K ρ0 σ0 F0 H0 i p tp as cs ρ σ F H) (r0 : Rel K F0 H0 ρ0 σ0) {m : Nat} {a : Addr} {d d' : D} {o' : HO} (ha : as[m]? = some a) (hd : cs[m]? = some d) (ro : Ro K F a o' d') : TG K ρ0 σ0 F0 H0 i p tp as (cs.set m d') ρ σ F (upd H a o') := by
  obtain ⟨x1, x2, x3, o, x4, x5⟩ := t.ch m a d ha hd
  have g := t.go.touch (o' := o') r0 x1 x2 x4 x3
  have pa : p ≠ a := fun z => t.pa (z ▸ List.mem_of_getElem? ha)
  refine ⟨g, t.he, t.np, t.fp, by rw [upd_ne pa]; exact t.hp, t.op, t.nd, t.pa, by rw [List.length_set]; exact t.ln, fun m2 a2 d2 h1 h2 => ?_, t.i0⟩
  by_cases e : m2 = m
  · subst e
    rw [ha] at h1
    cases h1
    rw [List.getElem?_set_self (List.getElem?_eq_some_iff.mp hd).1] at h2
    cases h2
    exact ⟨x1, x2, x3, o', upd_same, ro⟩
  · rw [List.getElem?_set_ne (Ne.symm e)] at h2
    obtain ⟨y1, y2, y3, o2, y4, y5⟩ := t.ch m2 a2 d2 h1 h2
    have na : a2 ≠ a := fun z => e (at_inj t.nd (z ▸ h1) ha)
    exact ⟨y1, y2, y3, o2, by rw [upd_ne na]; exact y4, y5⟩
end
abbrev GS := List D → Rho → Option (List D × Rho)
def isEmp (i : Nat) (ρ : Rho) : Bool := match ρ[i]? with
  | some .emp => true
  | _ => false
theorem isEmp_of {i : Nat} {ρ : Rho} (h : isEmp i ρ = true) : ρ[i]? = some .emp := by
  unfold isEmp at h
  split at h
  · assumption
  · cases h
/-- what an expression tells, the slot i left out -/
def gk {α β : Type} (i : Nat) (r : Res α) (k : α → Rho → Option β) : Option β := match r with
  | .ok a ρ1 => if isEmp i ρ1 = true then k a ρ1 else none
  | _ => none
theorem gk_of {α β : Type} {i : Nat} {r : Res α} {k : α → Rho → Option β} {b : β} (h : gk i r k = some b) : ∃ a ρ1, r = .ok a ρ1 ∧ ρ1[i]? = some .emp ∧ k a ρ1 = some b := by
  unfold gk at h
  split at h
  · split at h
    · rename_i h2
      exact ⟨_, _, rfl, isEmp_of h2, h⟩
    · cases h
  · cases h
section
variable {X : Cx} {E : EW} {fr : Bool} {i : Nat} {T1 T2 : TS} {t1 t2 : GS}
theorem range_turn {lo : Int} {n : Nat} {F H : Hp} (e : Same F H) : (∀ k d, (rangeD lo n)[k]? = some d → (Itr lo n).go k H ∧ ∀ x H3, (Itr lo n).yld k H x H3 → ∃ F3, Gr F H F3 H3 ∧ Rp X.K F3 x d) ∧ ∀ k, (rangeD lo n).length ≤ k → (Itr lo n).stop k H := by
  refine ⟨fun k d hd => ?_, fun k hk => by rw [rangeD_len] at hk; exact hk⟩
  obtain ⟨h1, rfl⟩ := rangeD_get hd
  refine ⟨h1, fun x H3 y => ?_⟩
  obtain ⟨rfl, rfl⟩ := y
  exact ⟨F, Gr.refl e, .int _⟩
/-- a target beside the slot i -/
noncomputable def unifO (i : Nat) (f : Addr → Option Rho) : Option Rho := unifA i fun a => match f a with
  | some ρ => .nx ρ
  | none => .bad
theorem unifO_spec {i : Nat} {f : Addr → Option Rho} {ρ2 : Rho} (h : unifO i f = some ρ2) : ρ2[i]? = some .emp ∧ ∀ a, f a = some (ρ2.set i (.adr a)) := by
  obtain ⟨h1, h2⟩ := unifA_spec h
  refine ⟨h1, fun a => ?_⟩
  have := h2 a
  split at this
  · rename_i ρ e
    rw [e]
    injection this with this
    rw [this]
  · cases this
theorem unifO_of {i : Nat} {f : Addr → Option Rho} {ρ2 : Rho} (he : ρ2[i]? = some .emp) (h : ∀ a, f a = some (ρ2.set i (.adr a))) : unifO i f = some ρ2 := unifA_of he fun a => by rw [h a]
end
theorem dput_ro {K : PySem.W.Frag} {F H : Hp} {a : Addr} {o : HO} {d kd x d' : D} {w v : V} (e : dPutD d kd x = some d') (ro : Ro K F a o d) (h : H a = some o) (ex : Same F H) (rw1 : Rp K F w kd) (rv : Rp K F v x) : ∃ o', DPut H a w v (upd H a o') ∧ Ro K F a o' d' := by
  unfold dPutD at e
  split at e
  · rename_i es
    cases q1 : kTof kd with
    | none => rw [q1] at e; cases e
    | some ks =>
      rw [q1] at e
      simp only [Option.bind_some] at e
      split at e
      · rename_i hz
        cases e
        obtain ⟨b2, rfl, hb⟩ := kTof_rp rw1 q1
        cases ro with
        | @dicT _ _ kvs _ hk2 hr2 =>
          have re := RpE.of hk2 hr2
          have rp := re.pt ks rv
          exact ⟨_, DPut.t h (ex _ _ hb) (by rw [re.len]; exact hz), Ro.dicT (z := false) (o := { cls := .none, data := .fields #[] }) rp.keys rp.vals⟩
      · cases e
  · rename_i es
    cases q1 : kOf kd with
    | none => rw [q1] at e; cases e
    | some ks =>
      rw [q1] at e
      simp only [Option.bind_some] at e
      split at e
      · rename_i hz
        cases e
        have := kOf_rp rw1 q1
        subst this
        cases ro with
        | @dicK _ _ kvs _ hk2 hr2 =>
          have re := RpE.of hk2 hr2
          have rp := re.pt ks rv
          exact ⟨_, DPut.k h (by rw [re.len]; exact hz), Ro.dicK (z := false) (o := { cls := .none, data := .fields #[] }) rp.keys rp.vals⟩
      · cases e
  · cases e
section
variable {X : Cx} {E : EW} {fr : Bool} {i : Nat}
end
section
variable {K : PySem.W.Frag} {ρ0 ρ : Rho} {σ0 σ : L2.St} {F0 H0 F H : Hp} {i : Nat} {p : Addr} {tp : Bool} {as : List Addr} {cs : List D}
end
section
variable {X : Cx} {E : EW} {fr : Bool} {i : Nat} {tp : Bool} {T1 T2 : TS} {t1 : GS} {t2 : List D → XS}
variable {x : Str} {xp pos pos2 : Pos} {rest : List Stmt}
end
section
variable {X : Cx} {E : EW} {i j : Nat}
end
section
variable {i j : Nat} {cs cs' : List D} {ρ ρ1 ρ2 ρ3 : Rho}
end
end G


set_option maxHeartbeats 4000000
namespace G
open PySem PySem.Spec PyProof.Rows L2

section
variable {X : Cx} {E : EW}
end
end G


set_option maxHeartbeats 4000000
namespace G
open PySem PySem.Spec PyProof.Rows L2

section
variable {P : Program} {w : World} {K : PySem.W.Frag} {mg : Str → Option Value} {base : Heap} {cv : String → Value} {fr : Bool} {f : Addr} {fd : FuncData} {ps : List Str} {k : Nat} {md : List Bool}
end
end G


set_option maxHeartbeats 4000000
namespace G
open PySem PySem.Spec PyProof.Rows L2

section
variable {X : Cx} {E : EW}
end
end G


set_option maxHeartbeats 4000000
namespace G
section
open PySem PySem.W PySem.Calls PyProof.Rows PyProof.V PySem.Spec
variable {prog : Program} {w : World} {K : Type} [DecidableEq K] {knd : HeapKind prog w K} {A : Around} {E : Value → Shared → Prop} {s : Shared}
end
section
open PySem PySem.Spec PyProof.Rows L2
variable {X : Cx}
end
section
open PySem PySem.Spec PyProof.Rows L2
variable (ρ : Rho) (i : Nat) (t : XS) (es : List (List Key × D)) (d e : D)
end
end G


set_option maxHeartbeats 4000000
namespace G
open PySem PySem.Spec PyProof.Rows L2
end G


set_option maxHeartbeats 4000000
namespace G
open PySem PySem.Spec PyProof.Rows L2
section
variable {X : Cx} {E : EW} {pos : Pos}
end
end G


namespace G
open PySem PySem.Spec PyProof.Rows L2
section
variable {X : Cx} {pos : Pos}
end
end G


namespace G
open PySem PySem.Spec PyProof.Rows L2
end G


set_option maxHeartbeats 4000000
namespace G
open PySem PySem.Spec PyProof.Rows L2

section
variable {K : PySem.W.Frag} {E : EW}
end
end G


set_option maxHeartbeats 4000000
namespace L2
open PySem PySem.Spec PyProof.Rows
section
variable {X : Cx} {tg : Expr}
end
end L2
namespace G
open PySem PySem.Spec PyProof.Rows L2
section
variable {X : Cx} {tg : Expr} {E : EW} {pos : Pos}
end
end G


set_option maxHeartbeats 4000000
namespace G
open PySem PySem.Spec PyProof.Rows L2

/-- a text of these signs -/
def mkS (l : List Nat) : Str := ⟨l.toArray⟩
section
variable {X : Cx} {E : EW} {pos : Pos} {o e : Expr} {to te : XV}
end
section
variable {X : Cx} {E : EW} {pos : Pos} {o e : Expr} {to te : XV}
def cutL (z : Str) (lo hi : Option Int) : Str := mkS (cutG (TL.tl z) lo hi)
end
end G


set_option maxHeartbeats 4000000
namespace G
open PySem PySem.Spec PyProof.Rows L2

end G


set_option maxHeartbeats 4000000
namespace G
open PySem PySem.Spec PyProof.Rows L2

end G


set_option maxHeartbeats 4000000
namespace G
open PySem PySem.Spec PyProof.Rows L2

section
variable {X : Cx}
def rSetdT : V → List V → Hp → VK → Prop := fun x xs H Q => ∃ (a : Addr) (kvs : List (List L2.Key × V)) (k : List L2.Key) (b : Addr) (d : V), x = .ref a ∧ xs = [.ref b, d] ∧ H a = some (.dT kvs) ∧ H b = some (.tup (k.map kV)) ∧ kvs.length < sizeLine ∧
  (∀ v, valV kvs k = some v → Q v H) ∧ (valV kvs k = none → Q d (upd H a (.dT (putK kvs k d))))
theorem mt_setdT (hu : X.A.units + 1 < cLine) : MtR X "dict.setdefault" rSetdT := by
  intro pins s σ H x xs v us Q I rx rxs h
  obtain ⟨a, kvs, k, b, d, rfl, rfl, ha, hb, hl, q1, q2⟩ := h
  cases rx
  obtain ⟨u1, u2, rfl, r1, r2⟩ := vals2 rxs
  cases r1
  obtain ⟨z, hd, xs', rel, dd⟩ := dt_of I.hok ha
  have hz : xs'.length ≤ sizeLine := by rw [← Paired.length rel]; exact z
  refine call_setdefault_heap (knd := tupleKind (mixKind X.prog X.w)) (k := k) (tupleKind_room_in1 hu) (key_of I.hok hb) hd dd (fun p hp => ?_) (fun hn h' dd' hs => ?_) hz
  · have r := rel.val k
    rw [hp] at r
    obtain ⟨v0, ev, rv⟩ : ∃ v0, valV kvs k = some v0 ∧ RelV v0 p.2 := by
      cases ev : valV kvs k with
      | none =>
        rw [ev] at r
        exact (show False from r).elim
      | some v0 =>
        rw [ev] at r
        exact ⟨v0, rfl, r⟩
    exact ⟨v0, H, I.tok _, rv, q1 v0 ev⟩
  · have r := rel.val k
    rw [hn] at r
    have ev : valV kvs k = none := by
      cases ev : valV kvs k with
      | none => rfl
      | some v0 =>
        rw [ev] at r
        exact (show False from r).elim
    obtain ⟨o, es, ep, hq, h2, h3, h4, _, h5⟩ := dd'
    have hl2 : (putK kvs k d).length ≤ sizeLine := by
      have := length_putK kvs k d
      omega
    have I2 : Inv X pins σ (upd H a (.dT (putK kvs k d))) { s with heap := h', toks := s.toks + (tupleKind (mixKind X.prog X.w)).draws k } :=
      d_write I (by rw [ha]; exact True.intro) hs ⟨o, hq⟩ ⟨hl2, hd, _, (rel.put k hb r2).keeps (fun c ys ec => (by rw [upd_ne (L2.ne_of ec ha (fun z => nomatch z))]; exact ec)), o, es, ep, hq, h2, h3, h4, h5⟩
    exact ⟨d, _, I2, r2, q2 ev⟩
end
def setdO (i : Nat) (x : D) (ks : List Key) (es : List (List Key × D)) (ρ : Rho) (o : Option D) : Res D := match o with
  | some d => .ok d ρ
  | none => .ok x (ρ.set i (.own (.dicT false (pt es ks x))))
def setdK (i : Nat) (x : D) (es : List (List Key × D)) (ρ : Rho) (o : Option (List Key)) : Res D := match o with
  | some ks => if es.length < sizeLine then setdO i x ks es ρ (lk es ks) else .bad
  | none => .bad
def setdS (i : Nat) (k x : D) (ρ : Rho) (o : Option D) : Res D := match o with
  | some (.dicT false es) => setdK i x es ρ (kTof k)
  | _ => .bad
def setdk2 (i : Nat) (k : D) : D → Rho → Res D := fun x ρ => setdS i k x ρ (ownD i ρ)
def setdk1 (i : Nat) (tx : XV) : D → Rho → Res D := fun k ρ => (tx ρ).bind (setdk2 i k)
def setdk0 (i : Nat) (tk tx : XV) (ρ : Rho) (o : Option D) : Res D := match o with
  | some (.dicT false _) => (tk ρ).bind (setdk1 i tx)
  | _ => .bad
def xDSetd (i : Nat) (tk tx : XV) : XV := fun ρ => setdk0 i tk tx ρ (ownD i ρ)
section
variable {X : Cx} {E : EW} {pos : Pos}
theorem xe_dsetd {i : Nat} {e : Expr} {tk te : XV} (hs : PE X e (tBM X.K "dict" rSetdT (tVar i) (tCons (lE X.K E tk) (tCons (lE X.K E te) tNil)))) : PE X e (lE X.K E (xDSetd i tk te)) := pe_imp hs fun σ H Q h => by
  obtain ⟨F, ρ, r, p⟩ := h
  unfold Pend xDSetd at p
  cases e0 : ownD i ρ with
  | none => simp only [e0, setdk0] at p
  | some y0 =>
    obtain ⟨a, o0, s0, f0, h0, ro0⟩ := r.own (ownD_of e0)
    cases y0 with
    | dicT z es0 =>
      cases z with
      | true => simp only [e0, setdk0] at p
      | false =>
        simp only [e0, setdk0] at p
        cases ro0 with
        | @dicT _ _ kvs0 _ hk0 hr0 =>
        refine ⟨.ref a, s0, .inr (.inr (.inl ⟨rfl, .inr ⟨kvs0, h0⟩⟩)), F, ρ, r, (Pend.bind r (show Pend X.K E (fun ρ => (tk ρ).bind (setdk1 i te)) ρ σ F H _ from p)).mono fun kd ρ1 F1 H1 g1 q w rw1 => ?_⟩
        refine ⟨F1, ρ1, g1.rel, (Pend.bind g1.rel q).mono fun xd ρ2 F2 H2 g2 q v rv => ?_⟩
        unfold Pend setdk2 at q
        cases e1 : ownD i ρ2 with
        | none => simp only [e1, setdS] at q
        | some y1 =>
          obtain ⟨b, o1, s1, f1, h1, ro1⟩ := g2.rel.own (ownD_of e1)
          rw [s0] at s1
          cases s1
          cases y1 with
          | dicT z es =>
            cases z with
            | true => simp only [e1, setdS] at q
            | false =>
              simp only [e1, setdS] at q
              cases q1 : kTof kd with
              | none => simp only [q1, setdK] at q
              | some ks =>
                by_cases hz : es.length < sizeLine
                rotate_left
                · simp only [q1, setdK, if_neg hz] at q
                simp only [q1, setdK, if_pos hz] at q
                obtain ⟨b2, rfl, hb⟩ := kTof_rp (rw1.mono g2.ex) q1
                cases ro1 with
                | @dicT _ _ kvs _ hk hr =>
                have re := RpE.of hk hr
                have rl := re.lk ks
                have hlen : kvs.length < sizeLine := by
                  have := congrArg List.length hk
                  rw [List.length_map, List.length_map] at this
                  omega
                refine ⟨a, kvs, ks, b2, v, rfl, rfl, h1, g2.rel.ex _ _ hb, hlen, fun u hu => ?_, fun hu => ?_⟩
                · cases q2 : lk es ks with
                  | none => rw [q2, hu] at rl; exact rl.elim
                  | some d =>
                    rw [q2, hu] at rl
                    simp only [q2, setdO] at q
                    exact q F2 H2 (Go.refl g2.rel) u rl
                · cases q2 : lk es ks with
                  | some d => rw [q2, hu] at rl; exact rl.elim
                  | none =>
                    simp only [q2, setdO] at q
                    have rp := re.pt ks rv
                    exact q F2 _ (Go.mut g2.rel (ownD_of e1) s0 f1 h1 (Ro.dicT (z := false) (o := { cls := .none, data := .fields #[] }) rp.keys rp.vals)) v rv
          | _ => simp only [e1, setdS] at q
    | _ => simp only [e0, setdk0] at p
end
section
variable (ρ : Rho) (i : Nat)
theorem zkz (tk tx : XV) : xDSetd i tk tx ρ = setdk0 i tk tx ρ (ownD i ρ) := rfl
theorem zkA (tk tx : XV) (es : List (List Key × D)) : setdk0 i tk tx ρ (some (.dicT false es)) = (tk ρ).bind (setdk1 i tx) := rfl
theorem zkB (tx : XV) (k : D) : setdk1 i tx k ρ = (tx ρ).bind (setdk2 i k) := rfl
theorem zkC (k x : D) : setdk2 i k x ρ = setdS i k x ρ (ownD i ρ) := rfl
theorem zkD (k x : D) (es : List (List Key × D)) : setdS i k x ρ (some (.dicT false es)) = setdK i x es ρ (kTof k) := rfl
theorem zkE (x : D) (ks : List Key) (es : List (List Key × D)) (d : D) : setdO i x ks es ρ (some d) = .ok d ρ := rfl
theorem zkF (x : D) (ks : List Key) (es : List (List Key × D)) : setdO i x ks es ρ none = .ok x (ρ.set i (.own (.dicT false (pt es ks x)))) := rfl
end
theorem zkG {ρ : Rho} {i : Nat} {x : D} {es : List (List Key × D)} {ks : List Key} (h : es.length < sizeLine) : setdK i x es ρ (some ks) = setdO i x ks es ρ (lk es ks) := if_pos h
end G


set_option maxHeartbeats 4000000
namespace G
open PySem PySem.Spec PyProof.Rows L2

section
variable {K : PySem.W.Frag} {ρ : Rho} {σ : L2.St} {F H : Hp}
end
section
variable {X : Cx} {E : EW} {fr : Bool} {pos : Pos} {i : Nat}
def xItKV (te : XV) : XA := fun ρ => (te ρ).bind (lift dKeysT)
theorem xi_keysV {tg e : Expr} {te : XV} (he : PE X e (lE X.K E te)) : PI X tg e (lI X.K E (xItKV te)) := pi_imp (pi_keys he) fun σ H R h => by
  obtain ⟨F, ρ, r, p⟩ := h
  refine ⟨F, ρ, r, (Pend.bind r p).mono fun x ρ1 F1 H1 g1 q v rv => ?_⟩
  obtain ⟨d, e, q⟩ := q.lift
  unfold dKeysT at e
  split at e
  · cases e
    cases rv with
    | dicT hf hk hr => exact ⟨_, _, rfl, .inr ⟨_, g1.rel.ex _ _ hf, q F1 H1 (Go.refl g1.rel) _ (iters_keysT hk fun ρ2 σ2 F2 H2 g => g.rel.ex _ _ (g.ex _ _ hf))⟩⟩
  · cases e
end
section
variable (ρ : Rho) (i : Nat)
theorem zkL (te : XV) : xItKV te ρ = (te ρ).bind (lift dKeysT) := rfl
end
end G


set_option maxHeartbeats 4000000
namespace G
open PySem PySem.Spec PyProof.Rows L2

abbrev tx (l : List Nat) : D := .str (mkS l)
end G


set_option maxHeartbeats 4000000
namespace G
open PySem PySem.Spec PyProof.Rows L2

def noOwnA (ρ : Rho) : Bool := ρ.all fun s => match s with
  | .own _ => false
  | _ => true
section
variable {X : Cx} {E : EW} {fr : Bool} {i : Nat} {T : TS} {t : List D → XS}
variable {y : Str} {py spos pos : Pos} {elt tg iter : Expr} {scope : Scope} {own : List (Str × Nat)} {ti : XA} {g : XG} {te : XV} {rest : List Stmt}
end
section
variable {X : Cx} {E : EW} {i j : Nat}
end
section
variable {X : Cx} {E : EW} {fr : Bool} {i : Nat}
end
end G


set_option maxHeartbeats 4000000
namespace G
open PySem PySem.Spec PyProof.Rows L2

section
variable {prog : Program} {w : World} {A : Around} {E : Value → Shared → Prop} {s : Shared}
end
section
variable {X : Cx} {E : EW} {pos : Pos}
end
end G


set_option maxHeartbeats 4000000
namespace G
section
open PySem PySem.W PySem.Calls PyProof.Rows PyProof.V PySem.Spec PySem.SeqAt AutoSeq1 MeetsSeq
variable {prog : Program} {w : World} {A : Around} {E : Value → Shared → Prop} {s : Shared}
end
section
open PySem PySem.Spec PyProof.Rows L2
variable {X : Cx}
end
open PySem PySem.Spec PyProof.Rows L2
end G


set_option maxHeartbeats 4000000
namespace G
open PySem PySem.Spec PyProof.Rows L2

section
variable {X : Cx} {pins : List (Addr × Obj)} {σ : L2.St} {H : Hp} {s : Shared}
end
end G


set_option maxHeartbeats 4000000
namespace G
open PySem PySem.Spec PyProof.Rows L2 LamX

section
variable {X : Cx} {pins : List (Addr × Obj)} {σ : L2.St} {H : Hp} {s : Shared}
end
end G


set_option maxHeartbeats 4000000
namespace G
open PySem PySem.Spec PyProof.Rows L2 LamX

section
variable {P0 : Program} {w : World} {K : PySem.W.Frag} {mg : Str → Option Value} {base : Heap} {cv : String → Value}
end
section
variable {X : Cx} {cv : String → Value} {pos : Pos} {W : WX}
end
end G


set_option maxHeartbeats 4000000
namespace G
open PySem PySem.Spec PyProof.Rows L2 LamX

section
variable {X : Cx} {pins : List (Addr × Obj)} {σ : L2.St} {H : Hp} {s : Shared}
end
section
variable {X : Cx} {E : EW} {pos : Pos}
end
end G


set_option maxHeartbeats 4000000
namespace G
open PySem PySem.Spec PyProof.Rows L2 LamX

end G


set_option maxHeartbeats 4000000
namespace G
open PySem PySem.Spec PyProof.Rows L2 LamX

section
variable {P : Addr} {F1 H1 F' H' : Hp}
end
section
variable {X : Cx} {cv : String → Value} {pos pos2 : Pos} {W : WX} {fr : Bool}
end
section
variable {K : PySem.W.Frag} {E : EW}
end
end G


set_option maxHeartbeats 4000000
namespace G
open PySem PySem.Spec PyProof.Rows L2
section
variable {P : Program} {w : World} {K : PySem.W.Frag} {mg : Str → Option Value} {base : Heap}
end
section
variable {X : Cx} {cv : String → Value} {pos : Pos}
end
end G


set_option maxHeartbeats 4000000
namespace G
open PySem PySem.Spec PyProof.Rows L2

section
variable {K : PySem.W.Frag} {F H F' H' : Hp} {ρ : Rho} {σ : L2.St}
end
section
variable {P : Program} {w : World} {K : PySem.W.Frag} {mg : Str → Option Value} {base : Heap} {cv : String → Value}
end
section
variable {X : Cx} {cv : String → Value} {pos : Pos} {W : WX}
end
section
variable {X : Cx} {E : EW} {pos : Pos} {fr : Bool}
end
open Classical in
section
variable {X : Cx} {cv : String → Value} {pos : Pos} {W : WX}
end
end G


set_option maxHeartbeats 4000000
namespace G
open PySem PySem.Spec PyProof.Rows L2

section
variable {K : PySem.W.Frag} {E : EW} {fr : Bool} {i : Nat} {ρ1 : Rho} {σ : L2.St} {F1 H1 F' H' H2 : Hp} {v : V} {d : D}
end
section
variable {X : Cx} {cv : String → Value} {pos : Pos} {W : WX} {fr : Bool}
end
end G


set_option maxHeartbeats 4000000
namespace G
open PySem PySem.Spec PyProof.Rows L2

section
variable {K : PySem.W.Frag} {E : EW}
end
end G


set_option maxHeartbeats 4000000
namespace G
open PySem PySem.Spec PyProof.Rows L2

def ownF : D → Bool
  | .dicT false _ => true
  | _ => false
/-- what its fields hold: values, and dicts of its own at these places -/
inductive Flds (K : PySem.W.Frag) (F H : Hp) : List V → List D → List Addr → Prop
  | nil : Flds K F H [] [] []
  | val {v : V} {vs : List V} {d : D} {ds : List D} {as : List Addr} : ownF d = false → Rp K F v d → Flds K F H vs ds as → Flds K F H (v :: vs) (d :: ds) as
  | own {q : Addr} {o : HO} {vs : List V} {d : D} {ds : List D} {as : List Addr} : ownF d = true → F q = none → H q = some o → Ro K F q o d → Flds K F H vs ds as → Flds K F H (.ref q :: vs) (d :: ds) (q :: as)
structure Cmp (K : PySem.W.Frag) (F H : Hp) (p : Addr) (as : List Addr) (gd : D) : Prop where
  ex : ∃ (C dx : Addr) (c : String) (fs : List (Str × V)) (es : List (Str × D)), gd = .inst c es ∧ ClsAt K c C ∧ H p = some (.ins C dx fs) ∧ fs.map (·.1) = es.map (·.1) ∧ Flds K F H (fs.map (·.2)) (es.map (·.2)) as
  fp : F p = none
  nd : (p :: as).Nodup
theorem ownF_ro {K : PySem.W.Frag} {F : Hp} {q : Addr} {o : HO} {d : D} (h : ownF d = true) (ro : Ro K F q o d) : ∃ kvs, o = .dT kvs := by
  cases ro with
  | @dicT z _ kvs _ _ _ =>
    cases z with
    | false => exact ⟨kvs, rfl⟩
    | true => cases h
  | _ => cases h
section
variable {K : PySem.W.Frag} {F F' H H' : Hp}
theorem Flds.has : ∀ {vs : List V} {ds : List D} {as : List Addr}, Flds K F H vs ds as → ∀ q ∈ as, F q = none ∧ ∃ kvs, H q = some (.dT kvs)
  | _, _, _, .nil, q, h => absurd h List.not_mem_nil
  | _, _, _, .val _ _ t, q, h => t.has q h
  | _, _, _, .own o1 f1 h1 r1 t, q, h => by
    rcases List.mem_cons.mp h with rfl | h
    · obtain ⟨kvs, rfl⟩ := ownF_ro o1 r1
      exact ⟨f1, kvs, h1⟩
    · exact t.has q h
theorem Flds.mono (ex : Same F F') (k : ∀ q o, F q = none → H q = some o → NTup o → (∃ kvs, o = .dT kvs) → F' q = none ∧ H' q = some o) : ∀ {vs : List V} {ds : List D} {as : List Addr}, Flds K F H vs ds as → Flds K F' H' vs ds as
  | _, _, _, .nil => .nil
  | _, _, _, .val o1 r t => .val o1 (r.mono ex) (t.mono ex k)
  | _, _, _, .own o1 f1 h1 r1 t => .own o1 (k _ _ f1 h1 r1.nt (ownF_ro o1 r1)).1 (k _ _ f1 h1 r1.nt (ownF_ro o1 r1)).2 (r1.mono ex) (t.mono ex k)
/-- the same where only the places in as are looked at -/
theorem Flds.mono' (ex : Same F F') : ∀ {vs : List V} {ds : List D} {as : List Addr}, Flds K F H vs ds as → (∀ q ∈ as, F' q = none ∧ H' q = H q) → Flds K F' H' vs ds as
  | _, _, _, .nil, _ => .nil
  | _, _, _, .val o1 r t, k => .val o1 (r.mono ex) (t.mono' ex k)
  | _, _, _, .own o1 f1 h1 r1 t, k => .own o1 (k _ List.mem_cons_self).1 ((k _ List.mem_cons_self).2.trans h1) (r1.mono ex) (t.mono' ex fun q h => k q (List.mem_cons_of_mem _ h))
/-- all frozen -/
theorem Flds.rp (ex : Same F F') : ∀ {vs : List V} {ds : List D} {as : List Addr}, Flds K F H vs ds as → (∀ q ∈ as, F' q = H q) → RpAll K F' vs ds
  | _, _, _, .nil, _ => .nil
  | _, _, _, .val o1 r t, k => .cons (r.mono ex) (t.rp ex k)
  | _, _, _, .own (q := q) (d := d) o1 f1 h1 r1 t, k => by
    refine .cons ?_ (t.rp ex fun q h => k q (List.mem_cons_of_mem _ h))
    have e : F' q = some _ := (k q List.mem_cons_self).trans h1
    cases r1 with
    | @dicT z ob kvs es m1 m2 =>
      exact .dicT (z := z) (o := ob) e m1 (m2.mono ex)
    | _ => cases o1
end
/-- p and its dicts known -/
def Fs (F H : Hp) (S : List Addr) : Hp := fun b => if b ∈ S then H b else F b
structure OG (K : PySem.W.Frag) (ρ0 : Rho) (σ0 : L2.St) (F0 H0 : Hp) (i : Nat) (p : Addr) (as : List Addr) (gd : D) (ρ : Rho) (σ : L2.St) (F H : Hp) : Prop where
  go : Go K ρ0 σ0 F0 H0 (ρ.set i (.adr p)) σ F H
  he : ρ[i]? = some .emp
  cm : Cmp K F H p as gd
  no : ∀ q ∈ p :: as, H0 q = none ∧ F q = none ∧ ¬ Own (ρ.set i (.adr p)) σ q
section
variable {K : PySem.W.Frag} {ρ0 ρ ρ1 : Rho} {σ0 σ σ1 : L2.St} {F0 H0 F H F1 H1 : Hp} {i : Nat} {p : Addr} {as : List Addr} {gd : D}
theorem OG.lt (t : OG K ρ0 σ0 F0 H0 i p as gd ρ σ F H) : i < ρ.length := (List.getElem?_eq_some_iff.mp t.he).1
theorem OG.slot (t : OG K ρ0 σ0 F0 H0 i p as gd ρ σ F H) : σ[i]? = some (some (.ref p)) := by
  have hl := t.go.rel.len
  rw [List.length_set] at hl
  have hl2 : i < σ.length := by have := t.lt; omega
  have hs := List.getElem?_eq_getElem hl2
  have z := t.go.rel.at' i (.adr p) _ (List.getElem?_set_self t.lt) hs
  rw [hs]
  generalize σ[i] = o at z ⊢
  cases z
  rfl
theorem OG.at_ (t : OG K ρ0 σ0 F0 H0 i p as gd ρ σ F H) : ∀ q ∈ p :: as, ∃ o, H q = some o ∧ NTup o ∧ ∀ xs, o ≠ .lst xs := fun q hq => by
  obtain ⟨C, dx, c, fs, es, _, _, h1, _, h2⟩ := t.cm.ex
  rcases List.mem_cons.mp hq with rfl | hq
  · exact ⟨_, h1, fun _ z => (nomatch z), fun _ z => (nomatch z)⟩
  · obtain ⟨_, kvs, h3⟩ := h2.has q hq
    exact ⟨_, h3, fun _ z => (nomatch z), fun _ z => (nomatch z)⟩
/-- an ordinary step with X in its place -/
theorem OG.step (t : OG K ρ0 σ0 F0 H0 i p as gd ρ σ F H) (r0 : Rel K F0 H0 ρ0 σ0) (he : ρ1[i]? = some .emp) (g : Go K (ρ.set i (.adr p)) σ F H (ρ1.set i (.adr p)) σ1 F1 H1) : OG K ρ0 σ0 F0 H0 i p as gd ρ1 σ1 F1 H1 := by
  have r := t.go.rel
  have kp : ∀ q ∈ p :: as, F1 q = none ∧ H1 q = H q ∧ ¬ Own (ρ1.set i (.adr p)) σ1 q := fun q hq => by
    obtain ⟨n1, n2, n3⟩ := t.no q hq
    obtain ⟨o, h1, h2, _⟩ := t.at_ q hq
    obtain ⟨k1, k2⟩ := g.keep q o h1 n2 n3
    exact ⟨k2 h2, k1.trans h1.symm, own_back2 r g h1 n3⟩
  refine ⟨t.go.trans r0 g, he, ?_, fun q hq => ⟨(t.no q hq).1, (kp q hq).1, (kp q hq).2.2⟩⟩
  obtain ⟨C, dx, c, fs, es, e1, e2, e3, e4, e5⟩ := t.cm.ex
  exact ⟨⟨C, dx, c, fs, es, e1, e2, (kp p List.mem_cons_self).2.1.trans e3, e4, e5.mono' g.ex fun q hq => ⟨(kp q (List.mem_cons_of_mem _ hq)).1, (kp q (List.mem_cons_of_mem _ hq)).2.1⟩⟩, (kp p List.mem_cons_self).1, t.cm.nd⟩
/-- to leave X's place out, or to put it back -/
theorem go_slot {s s' : Slot} (r : Rel K F H (ρ.set i s) σ) (hs : σ[i]? = some (some (.ref p))) (z : SRel K F H s' (some (.ref p))) (n1 : ∀ d, s ≠ .own d) (n2 : ∀ d, s' ≠ .own d) (n3 : ∀ d, s' ≠ .rd d) : Go K (ρ.set i s) σ F H (ρ.set i s') σ F H := by
  have look : ∀ {m : Nat} {u : Slot}, (ρ.set i s')[m]? = some u → (m = i ∧ u = s') ∨ (m ≠ i ∧ (ρ.set i s)[m]? = some u) := fun {m u} h => by
    rcases get_set h with ⟨e, z⟩ | ⟨e, h⟩
    · exact .inl ⟨e.symm, z⟩
    · exact .inr ⟨fun z => e z.symm, by rw [List.getElem?_set_ne e]; exact h⟩
  have ownB : ∀ q, Own (ρ.set i s') σ q → Own (ρ.set i s) σ q := fun q ⟨m, d, h1, h2⟩ => by
    rcases look h1 with ⟨_, e⟩ | ⟨_, h1⟩
    · exact absurd e.symm (n2 d)
    · exact ⟨m, d, h1, h2⟩
  refine ⟨⟨r.ex, by rw [List.length_set, ← r.len, List.length_set], fun m u o h1 h2 => ?_, fun m k d1 d2 q h1 h2 h3 h4 => ?_, fun m d q h1 h2 h3 => ?_⟩, Same.refl F, fun a o h1 h2 _ => ⟨h1, fun _ => h2⟩, fun q h => .inl (ownB q h), rfl, fun d h => ?_, fun m d h => ?_⟩
  · rcases look h1 with ⟨rfl, rfl⟩ | ⟨_, h1⟩
    · rw [hs] at h2; cases h2; exact z
    · exact r.at' m u o h1 h2
  · rcases look h1 with ⟨_, e⟩ | ⟨_, h1⟩
    · exact absurd e.symm (n2 d1)
    · rcases look h2 with ⟨_, e⟩ | ⟨_, h2⟩
      · exact absurd e.symm (n2 d2)
      · exact r.dis m k d1 d2 q h1 h2 h3 h4
  · rcases look h1 with ⟨_, e⟩ | ⟨_, h1⟩
    · exact absurd e.symm (n3 d)
    · exact r.rdis m d q h1 h2 (ownB q h3)
  · by_cases h0 : i = 0
    · subst h0
      have hl : 0 < ρ.length := by
        have := (List.getElem?_eq_some_iff.mp h).1
        rwa [List.length_set] at this
      rw [List.getElem?_set_self hl] at h
      cases h
      exact absurd rfl (n1 d)
    · rw [List.getElem?_set_ne h0] at h ⊢
      exact ⟨d, h⟩
  · rcases look h with ⟨_, e⟩ | ⟨_, h⟩
    · exact absurd e.symm (n3 d)
    · exact ⟨h, rfl⟩
end
section
variable {K : PySem.W.Frag} {ρ0 ρ ρ1 : Rho} {σ0 σ σ1 : L2.St} {F0 H0 F H F1 H1 : Hp} {i : Nat} {p : Addr} {as : List Addr} {gd : D}
theorem OG.sameFs (t : OG K ρ0 σ0 F0 H0 i p as gd ρ σ F H) : Same F (Fs F H (p :: as)) := fun a o h => by
  unfold Fs
  rw [if_neg (fun z => by rw [(t.no a z).2.1] at h; cases h)]
  exact h
theorem OG.notRd (t : OG K ρ0 σ0 F0 H0 i p as gd ρ σ F H) (r0 : Rel K F0 H0 ρ0 σ0) {j : Nat} {d : D} {q : Addr} (h1 : (ρ.set i (.adr p))[j]? = some (.rd d)) (h2 : σ[j]? = some (some (.ref q))) (h3 : nofx d = true ∨ True) : Ra K F H (.ref q) d → F q = none → q ∉ p :: as := fun ra hf hq => by
  obtain ⟨k1, k2⟩ := t.go.rdb j d h1
  rw [h2] at k2
  have z := r0.at' j _ _ k1 k2.symm
  cases z with
  | rd z =>
    cases z with
    | val rp nf => exact rp_at (rp.mono t.go.ex) nf hf
    | own _ e _ => rw [(t.no q hq).1] at e; cases e
theorem OG.rpV (t : OG K ρ0 σ0 F0 H0 i p as gd ρ σ F H) : Rp K (Fs F H (p :: as)) (.ref p) gd := by
  obtain ⟨C, dx, c, fs, es, rfl, e2, e3, e4, e5⟩ := t.cm.ex
  have eq : ∀ q ∈ p :: as, Fs F H (p :: as) q = H q := fun q hq => by unfold Fs; rw [if_pos hq]
  exact .inst e2 ((eq p List.mem_cons_self).trans e3) e4 (e5.rp t.sameFs fun q hq => eq q (List.mem_cons_of_mem _ hq))
theorem OG.view (t : OG K ρ0 σ0 F0 H0 i p as gd ρ σ F H) (r0 : Rel K F0 H0 ρ0 σ0) : Rel K (Fs F H (p :: as)) H (ρ.set i (.val gd)) σ := by
  have r := t.go.rel
  have ex := t.sameFs
  have nfs : ∀ q, q ∉ p :: as → F q = none → Fs F H (p :: as) q = none := fun q hq h => by unfold Fs; rw [if_neg hq]; exact h
  have look : ∀ {m : Nat} {u : Slot}, (ρ.set i (.val gd))[m]? = some u → (m = i ∧ u = .val gd) ∨ (m ≠ i ∧ (ρ.set i (.adr p))[m]? = some u) := fun {m u} h => by
    rcases get_set h with ⟨e, z⟩ | ⟨e, h⟩
    · exact .inl ⟨e.symm, z⟩
    · exact .inr ⟨fun z => e z.symm, by rw [List.getElem?_set_ne e]; exact h⟩
  have ownB : ∀ q, Own (ρ.set i (.val gd)) σ q → Own (ρ.set i (.adr p)) σ q := fun q ⟨m, d, h1, h2⟩ => by
    rcases look h1 with ⟨_, e⟩ | ⟨_, h1⟩
    · cases e
    · exact ⟨m, d, h1, h2⟩
  refine ⟨fun a o h => ?_, by rw [List.length_set, ← r.len, List.length_set], fun m u o h1 h2 => ?_, fun m k d1 d2 q h1 h2 h3 h4 => ?_, fun m d q h1 h2 h3 => ?_⟩
  · unfold Fs at h
    split at h
    · exact h
    · exact r.ex a o h
  · rcases look h1 with ⟨rfl, rfl⟩ | ⟨_, h1⟩
    · rw [t.slot] at h2; cases h2; exact .val t.rpV
    · have z := r.at' m u o h1 h2
      cases z with
      | emp => exact .emp
      | adr => exact .adr
      | val rp => exact .val (rp.mono ex)
      | @own b o d z1 z2 z3 => exact .own (nfs b (fun hq => (t.no b hq).2.2 ⟨m, d, h1, h2⟩) z1) z2 (z3.mono ex)
      | @rd v d ra =>
        cases ra with
        | val rp nf => exact .rd (.val (rp.mono ex) nf)
        | @own b o d z1 z2 z3 => exact .rd (.own (nfs b (t.notRd r0 h1 h2 (.inr trivial) (.own z1 z2 z3) z1) z1) z2 (z3.mono ex))
  · rcases look h1 with ⟨_, e⟩ | ⟨_, h1⟩
    · cases e
    · rcases look h2 with ⟨_, e⟩ | ⟨_, h2⟩
      · cases e
      · exact r.dis m k d1 d2 q h1 h2 h3 h4
  · rcases look h1 with ⟨_, e⟩ | ⟨_, h1⟩
    · cases e
    · exact r.rdis m d q h1 h2 (ownB q h3)
end
mutual
/-- numbers, truths, texts, None, tuples and lists of these -/
def cln : D → Bool
  | .non => true
  | .bl _ => true
  | .int _ => true
  | .str _ => true
  | .ty _ => true
  | .tup ds => clns ds
  | .lst ds => clns ds
  | _ => false
def clns : List D → Bool
  | [] => true
  | d :: ds => cln d && clns ds
end
/-- the tuples and lists of F alone -/
def tlF (F : Hp) : Hp := fun a => match F a with
  | some (.tup xs) => some (.tup xs)
  | some (.lst xs) => some (.lst xs)
  | _ => none
theorem tlF_tup {F : Hp} {a : Addr} {xs : List V} (h : F a = some (.tup xs)) : tlF F a = some (.tup xs) := by unfold tlF; rw [h]
theorem tlF_lst {F : Hp} {a : Addr} {xs : List V} (h : F a = some (.lst xs)) : tlF F a = some (.lst xs) := by unfold tlF; rw [h]
theorem tlF_same (F : Hp) : Same (tlF F) F := fun a o h => by
  unfold tlF at h
  split at h
  · rename_i e; cases h; exact e
  · rename_i e; cases h; exact e
  · cases h
theorem tlF_none {F : Hp} {a : Addr} (h : F a = none) : tlF F a = none := by unfold tlF; rw [h]
theorem tlF_not {F : Hp} {a : Addr} {o : HO} (h : F a = some o) (n1 : NTup o) (n2 : ∀ xs, o ≠ .lst xs) : tlF F a = none := by
  unfold tlF
  rw [h]
  split
  · rename_i e; cases e; exact absurd rfl (n1 _)
  · rename_i e; cases e; exact absurd rfl (n2 _)
  · rfl
theorem rp_tlF {K : PySem.W.Frag} {F : Hp} {v : V} {d : D} (h : Rp K F v d) : cln d = true → Rp K (tlF F) v d := by
  refine Rp.rec (motive_1 := fun v d _ => cln d = true → Rp K (tlF F) v d) (motive_2 := fun vs ds _ => clns ds = true → RpAll K (tlF F) vs ds) ?_ ?_ ?_ ?_ ?_ ?_ ?_ ?_ ?_ ?_ ?_ ?_ ?_ ?_ ?_ ?_ ?_ ?_ h
  · exact fun _ => .non
  · exact fun b _ => .bl b
  · exact fun i _ => .int i
  · exact fun x _ => .str x
  · exact fun n _ => .ty n
  · exact fun h _ r z => .tup (tlF_tup h) (r (by unfold cln at z; exact z))
  · exact fun h _ r z => .lst (tlF_lst h) (r (by unfold cln at z; exact z))
  · exact fun _ _ _ z => by unfold cln at z; cases z
  · exact fun _ _ _ _ z => by unfold cln at z; cases z
  · exact fun _ _ _ _ z => by unfold cln at z; cases z
  · exact fun _ _ _ _ _ _ z => by unfold cln at z; cases z
  · exact fun _ _ z => by unfold cln at z; cases z
  · exact fun _ _ _ _ _ z => by unfold cln at z; cases z
  · exact fun _ z => by unfold cln at z; cases z
  · exact fun z => by unfold cln at z; cases z
  · exact fun _ _ z => by unfold cln at z; cases z
  · exact fun _ => .nil
  · exact fun _ _ r1 r2 z => by
      unfold clns at z
      rw [Bool.and_eq_true] at z
      exact .cons (r1 z.1) (r2 z.2)
theorem rpAll_tlF {K : PySem.W.Frag} {F : Hp} : ∀ {vs : List V} {ds : List D}, RpAll K F vs ds → clns ds = true → RpAll K (tlF F) vs ds
  | _, _, .nil, _ => .nil
  | _, _, .cons a b, z => by
    unfold clns at z
    rw [Bool.and_eq_true] at z
    exact .cons (rp_tlF a z.1) (rpAll_tlF b z.2)
/-- what a slot may hold then -/
def clnS : Slot → Bool
  | .val d => cln d
  | .own (.lst ds) => clns ds
  | .own (.dicT _ es) => clns (es.map (·.2))
  | .own _ => false
  | _ => true
def clnR (ρ : Rho) : Bool := ρ.all clnS
theorem ro_tlF {K : PySem.W.Frag} {F : Hp} {q : Addr} {o : HO} {d : D} (r : Ro K F q o d) (h : clnS (.own d) = true) : Ro K (tlF F) q o d := by
  cases r with
  | lst r => exact .lst (rpAll_tlF r h)
  | dicT k r => exact .dicT k (rpAll_tlF r h)
  | _ => cases h
/-- F, and the tuples and lists that came to be known -/
def mrgT (F F1 : Hp) : Hp := fun a => match F a with
  | some o => some o
  | none => tlF F1 a
theorem mrgT_same (F F1 : Hp) : Same F (mrgT F F1) := fun a o h => by unfold mrgT; rw [h]
theorem mrgT_tl {F F1 : Hp} (ex : Same F F1) : Same (tlF F1) (mrgT F F1) := fun a o h => by
  unfold mrgT
  split
  · rename_i o' e
    have := ex _ _ e
    rw [tlF_same F1 a o h] at this
    exact this.symm
  · exact h
theorem mrgT_none {F F1 : Hp} {a : Addr} (h : F a = none) (h1 : F1 a = none) : mrgT F F1 a = none := by
  unfold mrgT
  rw [h]
  exact tlF_none h1
section
variable {K : PySem.W.Frag} {ρ0 ρ ρ1 : Rho} {σ0 σ σ1 : L2.St} {F0 H0 F H F1 H1 : Hp} {i : Nat} {p : Addr} {as : List Addr} {gd : D}
/-- behind an expression that saw X's instance as a value -/
theorem OG.back (t : OG K ρ0 σ0 F0 H0 i p as gd ρ σ F H) (r0 : Rel K F0 H0 ρ0 σ0) (g : Go K (ρ.set i (.val gd)) σ (Fs F H (p :: as)) H ρ1 σ F1 H1) (hc : clnR (ρ1.set i .emp) = true) : OG K ρ0 σ0 F0 H0 i p as gd (ρ1.set i .emp) σ (mrgT F F1) H1 := by
  have r := t.go.rel
  have r1 := g.rel
  have exF : Same F F1 := t.sameFs.trans g.ex
  have hl1 : i < ρ1.length := by rw [r1.len, ← r.len, List.length_set]; exact t.lt
  have eS : (ρ1.set i .emp).set i (.adr p) = ρ1.set i (.adr p) := by rw [List.set_set]
  have fsN : ∀ q, q ∉ p :: as → Fs F H (p :: as) q = F q := fun q hq => by unfold Fs; rw [if_neg hq]
  have fsP : ∀ q ∈ p :: as, Fs F H (p :: as) q = H q := fun q hq => by unfold Fs; rw [if_pos hq]
  have kp : ∀ q ∈ p :: as, H1 q = H q ∧ mrgT F F1 q = none := fun q hq => by
    obtain ⟨o, h1, h2, h3⟩ := t.at_ q hq
    have e1 : F1 q = some o := g.ex _ _ ((fsP q hq).trans h1)
    refine ⟨(r1.ex _ _ e1).trans h1.symm, ?_⟩
    unfold mrgT
    rw [(t.no q hq).2.1]
    exact tlF_not e1 h2 h3
  have look : ∀ {m : Nat} {u : Slot}, (ρ1.set i (.adr p))[m]? = some u → (m = i ∧ u = .adr p) ∨ (m ≠ i ∧ ρ1[m]? = some u ∧ clnS u = true) := fun {m u} h => by
    rcases get_set h with ⟨e, z⟩ | ⟨e, h⟩
    · exact .inl ⟨e.symm, z⟩
    · refine .inr ⟨fun z => e z.symm, h, ?_⟩
      have h2 : (ρ1.set i .emp)[m]? = some u := by rw [List.getElem?_set_ne e]; exact h
      exact List.all_eq_true.mp hc u (List.mem_of_getElem? h2)
  have ownB : ∀ q, Own (ρ1.set i (.adr p)) σ q → Own ρ1 σ q := fun q ⟨m, d, h1, h2⟩ => by
    rcases look h1 with ⟨_, e⟩ | ⟨_, h1, _⟩
    · cases e
    · exact ⟨m, d, h1, h2⟩
  have ownC : ∀ q, Own (ρ.set i (.val gd)) σ q → Own (ρ.set i (.adr p)) σ q := fun q ⟨m, d, h1, h2⟩ => by
    rcases get_set h1 with ⟨_, e⟩ | ⟨e, h1⟩
    · cases e
    · exact ⟨m, d, by rw [List.getElem?_set_ne e]; exact h1, h2⟩
  have st : Go K (ρ.set i (.adr p)) σ F H (ρ1.set i (.adr p)) σ (mrgT F F1) H1 := by
    refine ⟨⟨fun a o h => ?_, by rw [List.length_set]; exact r1.len, fun m u o h1 h2 => ?_, fun m k d1 d2 q h1 h2 h3 h4 => ?_, fun m d q h1 h2 h3 => ?_⟩, mrgT_same F F1, fun a o h1 h2 h3 => ?_, fun q h => ?_, rfl, fun d h => ?_, fun m d h => ?_⟩
    · unfold mrgT at h
      split at h
      · rename_i e; cases h; exact r1.ex _ _ (exF _ _ e)
      · exact r1.ex _ _ (tlF_same F1 a o h)
    · rcases look h1 with ⟨rfl, rfl⟩ | ⟨hm, h1, hu⟩
      · rw [t.slot] at h2; cases h2; exact .adr
      · have z := r1.at' m u o h1 h2
        cases z with
        | emp => exact .emp
        | adr => exact .adr
        | val rp => exact .val ((rp_tlF rp hu).mono (mrgT_tl exF))
        | @own b o d z1 z2 z3 =>
          refine .own (mrgT_none ?_ z1) z2 ((ro_tlF z3 hu).mono (mrgT_tl exF))
          cases e : F b with
          | none => rfl
          | some o' => rw [exF _ _ e] at z1; cases z1
        | @rd v d ra =>
          obtain ⟨k1, k2⟩ := g.rdb m d h1
          have k3 : (ρ.set i (.adr p))[m]? = some (.rd d) := by
            rcases get_set k1 with ⟨_, e⟩ | ⟨e, k1⟩
            · cases e
            · rw [List.getElem?_set_ne e]; exact k1
          have w := r.at' m _ _ k3 h2
          cases w with
          | rd w =>
            cases w with
            | val rp nf => exact .rd (.val (rp.mono (mrgT_same F F1)) nf)
            | @own b o d z1 z2 z3 =>
              have nb := t.notRd r0 k3 h2 (.inr trivial) (.own z1 z2 z3) z1
              have nOw : ¬ Own (ρ.set i (.val gd)) σ b := fun w => r.rdis m d b k3 h2 (ownC b w)
              obtain ⟨y1, y2⟩ := g.keep b o z2 ((fsN b nb).trans z1) nOw
              exact .rd (.own (mrgT_none z1 (y2 z3.nt)) y1 (z3.mono (mrgT_same F F1)))
    · rcases look h1 with ⟨_, e⟩ | ⟨_, h1, _⟩
      · cases e
      · rcases look h2 with ⟨_, e⟩ | ⟨_, h2, _⟩
        · cases e
        · exact r1.dis m k d1 d2 q h1 h2 h3 h4
    · rcases look h1 with ⟨_, e⟩ | ⟨_, h1, _⟩
      · cases e
      · exact r1.rdis m d q h1 h2 (ownB q h3)
    · by_cases ha : a ∈ p :: as
      · exact ⟨(kp a ha).1.trans h1, fun _ => (kp a ha).2⟩
      · obtain ⟨y1, y2⟩ := g.keep a o h1 ((fsN a ha).trans h2) fun w => h3 (ownC a w)
        exact ⟨y1, fun n => mrgT_none h2 (y2 n)⟩
    · rcases g.own q (ownB q h) with w | w
      · exact .inl (ownC q w)
      · exact .inr w
    · by_cases h0 : i = 0
      · subst h0
        have : 0 < ρ.length := t.lt
        rw [List.getElem?_set_self this] at h
        cases h
      · rw [List.getElem?_set_ne h0] at h ⊢
        exact g.lowO d (by rw [List.getElem?_set_ne h0]; exact h)
    · rcases look h with ⟨_, e⟩ | ⟨hm, h, _⟩
      · cases e
      · obtain ⟨k1, k2⟩ := g.rdb m d h
        refine ⟨?_, k2⟩
        rcases get_set k1 with ⟨_, e⟩ | ⟨e, k1⟩
        · cases e
        · rw [List.getElem?_set_ne e]; exact k1
  have he : (ρ1.set i .emp)[i]? = some .emp := List.getElem?_set_self hl1
  exact t.step r0 he (by rw [eS]; exact st)
end
end G


set_option maxHeartbeats 4000000
namespace G
open PySem PySem.Spec PyProof.Rows L2

structure KeepC (F H F' H' : Hp) (S : List Addr) : Prop where
  ex : Same F F'
  sub : Same F' H'
  keep : ∀ z o, z ∉ S → H z = some o → H' z = some o ∧ (NTup o → F z = none → F' z = none)
def NoOwn (ρ : Rho) : Prop := ∀ s ∈ ρ, ∀ d, s ≠ Slot.own d
section
variable {K : PySem.W.Frag} {ρ0 ρ ρ1 : Rho} {σ0 σ σ1 : L2.St} {F0 H0 F H F1 H1 F' H' : Hp} {i : Nat} {p : Addr} {as as' : List Addr} {gd gd' : D}
theorem NoOwn.own (h : NoOwn ρ) (q : Addr) : ¬ Own ρ σ q := fun ⟨m, d, h1, _⟩ => h _ (List.mem_of_getElem? h1) d rfl
/-- the instance and its dicts change -/
theorem OG.mutC (t : OG K ρ0 σ0 F0 H0 i p as gd ρ σ F H) (r0 : Rel K F0 H0 ρ0 σ0) (n0 : NoOwn ρ0) (kc : KeepC F H F' H' (p :: as)) (cm : Cmp K F' H' p as' gd') (new : ∀ q ∈ as', q ∈ as ∨ H q = none ∨ (H0 q = none ∧ ¬ Own (ρ.set i (.adr p)) σ q)) : OG K ρ0 σ0 F0 H0 i p as' gd' ρ σ F' H' := by
  have r := t.go.rel
  have hN : ∀ q, H q = none → H0 q = none := fun q h => by
    cases e : H0 q with
    | none => rfl
    | some o => rw [t.go.sameH r0 e (n0.own q)] at h; cases h
  have kp : ∀ {b : Addr} {o : HO}, b ∉ p :: as → H b = some o → NTup o → F b = none → H' b = some o ∧ F' b = none := fun hb h n f => ⟨(kc.keep _ _ hb h).1, (kc.keep _ _ hb h).2 n f⟩
  have rel : Rel K F' H' (ρ.set i (.adr p)) σ := by
    refine ⟨kc.sub, r.len, fun m u o h1 h2 => ?_, r.dis, r.rdis⟩
    have z := r.at' m u o h1 h2
    cases z with
    | emp => exact .emp
    | adr => exact .adr
    | val rp => exact .val (rp.mono kc.ex)
    | @own b o d z1 z2 z3 =>
      obtain ⟨k1, k2⟩ := kp (fun hq => (t.no b hq).2.2 ⟨m, d, h1, h2⟩) z2 z3.nt z1
      exact .own k2 k1 (z3.mono kc.ex)
    | @rd v d ra =>
      cases ra with
      | val rp nf => exact .rd (.val (rp.mono kc.ex) nf)
      | @own b o d z1 z2 z3 =>
        obtain ⟨k1, k2⟩ := kp (t.notRd r0 h1 h2 (.inr trivial) (.own z1 z2 z3) z1) z2 z3.nt z1
        exact .rd (.own k2 k1 (z3.mono kc.ex))
  refine ⟨⟨rel, t.go.ex.trans kc.ex, fun a o h1 h2 h3 => ?_, t.go.own, t.go.low, t.go.lowO, t.go.rdb⟩, t.he, cm, fun q hq => ?_⟩
  · have na : a ∉ p :: as := fun z => by rw [(t.no a z).1] at h1; cases h1
    obtain ⟨k1, k2⟩ := t.go.keep a o h1 h2 h3
    obtain ⟨k3, k4⟩ := kc.keep a o na k1
    exact ⟨k3, fun n => k4 n (k2 n)⟩
  · obtain ⟨C, dx, c, fs, es, _, _, _, _, e5⟩ := cm.ex
    have old : q ∈ p :: as ∨ H q = none ∨ (H0 q = none ∧ ¬ Own (ρ.set i (.adr p)) σ q) := by
      rcases List.mem_cons.mp hq with rfl | hq
      · exact .inl List.mem_cons_self
      · rcases new q hq with z | z
        · exact .inl (List.mem_cons_of_mem _ z)
        · exact .inr z
    have fq : F' q = none := by
      rcases List.mem_cons.mp hq with rfl | hq
      · exact cm.fp
      · exact (e5.has q hq).1
    rcases old with z | z | z
    · exact ⟨(t.no q z).1, fq, (t.no q z).2.2⟩
    rotate_left
    · exact ⟨z.1, fq, z.2⟩
    · refine ⟨hN q z, fq, fun ⟨m, d, h1, h2⟩ => ?_⟩
      obtain ⟨b, o, k1, _, k3, _⟩ := r.own h1
      rw [h2] at k1
      cases k1
      rw [z] at k3
      cases k3
end
inductive RF where
  | nx (gd : D) (ρ : Rho) | ret (d gd : D) (ρ : Rho) | bad
abbrev RS := D → Rho → RF
def RF.seq (r : RF) (t : RS) : RF := match r with
  | .nx gd ρ => t gd ρ
  | .ret d gd ρ => .ret d gd ρ
  | .bad => .bad
def OutR (K : PySem.W.Frag) (ρ0 : Rho) (σ0 : L2.St) (F0 H0 : Hp) (i : Nat) (p : Addr) (F : Hp) (C : Ends) : RF → Prop
  | .nx gd ρ => ∀ σ' F' H' as, Same F F' → OG K ρ0 σ0 F0 H0 i p as gd ρ σ' F' H' → C.nx σ' H'
  | .ret d gd ρ => ∀ σ' F' H' as v, Same F F' → OG K ρ0 σ0 F0 H0 i p as gd ρ σ' F' H' → Rp K F' v d → C.rt v H'
  | .bad => False
theorem OutR.mono {K : PySem.W.Frag} {ρ0 : Rho} {σ0 : L2.St} {F0 H0 : Hp} {i : Nat} {p : Addr} {F F1 : Hp} {C : Ends} {r : RF} (s : Same F F1) (h : OutR K ρ0 σ0 F0 H0 i p F C r) : OutR K ρ0 σ0 F0 H0 i p F1 C r := by
  cases r with
  | nx gd ρ => exact fun σ' F' H' as z => h σ' F' H' as (s.trans z)
  | ret d gd ρ => exact fun σ' F' H' as v z => h σ' F' H' as v (s.trans z)
  | bad => exact h
structure RT (X : Cx) (i : Nat) (T : TS) (t : RS) : Prop where
  go : ∀ {ρ0 : Rho} {σ0 : L2.St} {F0 H0 : Hp} {p : Addr} {as : List Addr} {gd : D} {ρ : Rho} {σ : L2.St} {F H : Hp}, Rel X.K F0 H0 ρ0 σ0 → NoOwn ρ0 → OG X.K ρ0 σ0 F0 H0 i p as gd ρ σ F H → ∀ C : Ends, OutR X.K ρ0 σ0 F0 H0 i p F C (t gd ρ) → T C σ H
def rSeq (t1 t2 : RS) : RS := fun gd ρ => (t1 gd ρ).seq t2
def rNil : RS := fun gd ρ => .nx gd ρ
noncomputable def rOld (i : Nat) (ts : XS) : RS := fun gd ρ => match unifA i fun p => ts (ρ.set i (.adr p)) with
  | some ρ2 => .nx gd ρ2
  | none => .bad
/-- what an expression tells that sees the instance as a value -/
def rv {α : Type} (i : Nat) (r : Res α) (k : α → Rho → RF) : RF := match r with
  | .ok a ρ1 => if clnR (ρ1.set i .emp) = true then k a (ρ1.set i .emp) else .bad
  | _ => .bad
theorem rv_of {α : Type} {i : Nat} {r : Res α} {k : α → Rho → RF} (h : rv i r k ≠ .bad) : ∃ a ρ1, r = .ok a ρ1 ∧ clnR (ρ1.set i .emp) = true ∧ rv i r k = k a (ρ1.set i .emp) := by
  unfold rv at h ⊢
  cases r with
  | ok a ρ1 =>
    by_cases hc : clnR (ρ1.set i .emp) = true
    · exact ⟨a, ρ1, rfl, hc, if_pos hc⟩
    · exact absurd (if_neg hc) h
  | exc _ _ => exact absurd rfl h
  | bad => exact absurd rfl h
theorem out_ne {K : PySem.W.Frag} {ρ0 : Rho} {σ0 : L2.St} {F0 H0 : Hp} {i : Nat} {p : Addr} {F : Hp} {C : Ends} {r : RF} (h : OutR K ρ0 σ0 F0 H0 i p F C r) : r ≠ .bad := fun e => by
  subst e
  exact h
section
variable {X : Cx} {E : EW} {i : Nat} {T1 T2 : TS} {t1 t2 : RS} {K : PySem.W.Frag} {ρ0 ρ : Rho} {σ0 σ : L2.St} {F0 H0 F H : Hp} {p : Addr} {as : List Addr} {gd : D}
/-- a value -/
theorem view_E (t : OG K ρ0 σ0 F0 H0 i p as gd ρ σ F H) (r0 : Rel K F0 H0 ρ0 σ0) {te : XV} {d : D} {ρ1 : Rho} (e : te (ρ.set i (.val gd)) = .ok d ρ1) (hc : clnR (ρ1.set i .emp) = true) (hd : cln d = true) {Q : VK} (k : ∀ F2 H2 v, Same F F2 → OG K ρ0 σ0 F0 H0 i p as gd (ρ1.set i .emp) σ F2 H2 → Rp K F2 v d → Q v H2) : lE K E te σ H Q := by
  refine ⟨_, _, t.view r0, ?_⟩
  unfold Pend
  simp only [e]
  intro F1 H1 g v rp
  exact k _ H1 v (mrgT_same F F1) (t.back r0 g hc) ((rp_tlF rp hd).mono (mrgT_tl (t.sameFs.trans g.ex)))
/-- .. and the instance and its dicts are as they were -/
theorem view_Ek (t : OG K ρ0 σ0 F0 H0 i p as gd ρ σ F H) (r0 : Rel K F0 H0 ρ0 σ0) {te : XV} {d : D} {ρ1 : Rho} (e : te (ρ.set i (.val gd)) = .ok d ρ1) (hc : clnR (ρ1.set i .emp) = true) (hd : cln d = true) {Q : VK} (k : ∀ F2 H2 v, Same F F2 → OG K ρ0 σ0 F0 H0 i p as gd (ρ1.set i .emp) σ F2 H2 → Rp K F2 v d → (∀ q ∈ p :: as, H2 q = H q) → Q v H2) : lE K E te σ H Q := by
  refine ⟨_, _, t.view r0, ?_⟩
  unfold Pend
  simp only [e]
  intro F1 H1 g v rp
  refine k _ H1 v (mrgT_same F F1) (t.back r0 g hc) ((rp_tlF rp hd).mono (mrgT_tl (t.sameFs.trans g.ex))) fun q hq => ?_
  obtain ⟨o, h1, _, _⟩ := t.at_ q hq
  have e1 : Fs F H (p :: as) q = some o := by unfold Fs; rw [if_pos hq]; exact h1
  rw [g.rel.ex _ _ (g.ex _ _ e1), h1]
theorem view_T (t : OG K ρ0 σ0 F0 H0 i p as gd ρ σ F H) (r0 : Rel K F0 H0 ρ0 σ0) {te : XT} {b : Bool} {ρ1 : Rho} (e : te (ρ.set i (.val gd)) = .ok b ρ1) (hc : clnR (ρ1.set i .emp) = true) {Q : Bool → Hp → Prop} (k : ∀ F2 H2, Same F F2 → OG K ρ0 σ0 F0 H0 i p as gd (ρ1.set i .emp) σ F2 H2 → Q b H2) : lT K E te σ H Q := by
  refine ⟨_, _, t.view r0, ?_⟩
  unfold Pend
  simp only [e]
  intro F1 H1 g
  exact k _ H1 (mrgT_same F F1) (t.back r0 g hc)
theorem view_A (t : OG K ρ0 σ0 F0 H0 i p as gd ρ σ F H) (r0 : Rel K F0 H0 ρ0 σ0) {te : XA} {ds : List D} {ρ1 : Rho} (e : te (ρ.set i (.val gd)) = .ok ds ρ1) (hc : clnR (ρ1.set i .emp) = true) (hd : clns ds = true) {Q : List V → Hp → Prop} (k : ∀ F2 H2 vs, Same F F2 → OG K ρ0 σ0 F0 H0 i p as gd (ρ1.set i .emp) σ F2 H2 → RpAll K F2 vs ds → Q vs H2) : lA K E te σ H Q := by
  refine ⟨_, _, t.view r0, ?_⟩
  unfold Pend
  simp only [e]
  intro F1 H1 g vs rp
  exact k _ H1 vs (mrgT_same F F1) (t.back r0 g hc) ((rpAll_tlF rp hd).mono (mrgT_tl (t.sameFs.trans g.ex)))
theorem rt_seq (h1 : RT X i T1 t1) (h2 : RT X i T2 t2) : RT X i (tSeq T1 T2) (rSeq t1 t2) := by
  refine ⟨fun {ρ0 σ0 F0 H0 p as gd ρ σ F H} r0 n0 t C o => h1.go r0 n0 t { C with nx := T2 C } ?_⟩
  unfold rSeq at o
  cases e : t1 gd ρ with
  | bad => rw [e] at o; exact o
  | ret d gd' ρ' => rw [e] at o; exact o
  | nx gd' ρ' =>
    rw [e] at o
    exact fun σ' F' H' as' s t' => h2.go r0 n0 t' C (OutR.mono s o)
theorem rt_nil : RT X i tNext rNil := ⟨fun r0 n0 t C o => o _ _ _ _ (Same.refl _) t⟩
theorem rt_old {fr : Bool} {ts : XS} : RT X i (lS X.K E fr ts) (rOld i ts) := by
  refine ⟨fun {ρ0 σ0 F0 H0 p as gd ρ σ F H} r0 n0 t C o => ?_⟩
  unfold rOld at o
  cases hu : unifA i fun p => ts (ρ.set i (.adr p)) with
  | none => rw [hu] at o; exact o.elim
  | some ρ2 =>
    rw [hu] at o
    obtain ⟨he, hts⟩ := unifA_spec hu
    refine ⟨F, _, t.go.rel, ?_⟩
    unfold PendS
    rw [hts p]
    intro σ2 F2 H2 g2
    exact o _ _ _ _ g2.ex (t.step r0 he g2)
def rIf (i : Nat) (c : XT) (t1 t2 : RS) : RS := fun gd ρ => rv i (c (ρ.set i (.val gd))) fun b ρ1 => if b = true then t1 gd ρ1 else t2 gd ρ1
theorem rt_if {c : XT} (h1 : RT X i T1 t1) (h2 : RT X i T2 t2) : RT X i (tIfS (lT X.K E c) T1 T2) (rIf i c t1 t2) := by
  refine ⟨fun {ρ0 σ0 F0 H0 p as gd ρ σ F H} r0 n0 t C o => ?_⟩
  obtain ⟨b, ρ1, e, hc, e2⟩ := rv_of (show rv i _ _ ≠ .bad from out_ne o)
  unfold rIf at o
  rw [e2] at o
  refine view_T t r0 e hc fun F2 H2 s t2 => ?_
  cases b with
  | true => rw [if_pos rfl] at o ⊢; exact h1.go r0 n0 t2 C (OutR.mono s o)
  | false => rw [if_neg Bool.false_ne_true] at o ⊢; exact h2.go r0 n0 t2 C (OutR.mono s o)
/-- x = e -/
def rSet (i j : Nat) (te : XV) : RS := fun gd ρ => rv i (te (ρ.set i (.val gd))) fun d ρ1 => if cln d = true ∧ i ≠ j then .nx gd (ρ1.set j (.val d)) else .bad
theorem rt_set {j : Nat} {te : XV} (hj : j ≠ 0) : RT X i (tAsg (lE X.K E te) (gName j)) (rSet i j te) := by
  refine ⟨fun {ρ0 σ0 F0 H0 p as gd ρ σ F H} r0 n0 t C o => ?_⟩
  obtain ⟨d, ρ1, e, hc, e2⟩ := rv_of (show rv i _ _ ≠ .bad from out_ne o)
  unfold rSet at o
  rw [e2] at o
  by_cases hd : cln d = true ∧ i ≠ j
  · rw [if_pos hd] at o
    refine view_E t r0 e hc hd.1 fun F2 H2 v s t2 rp => ?_
    have g := Go.setVal (i := j) hj t2.go.rel rp
    rw [List.set_comm _ _ hd.2] at g
    refine o _ _ _ _ s (t2.step r0 ?_ g)
    rw [List.getElem?_set_ne (Ne.symm hd.2)]
    exact t2.he
  · rw [if_neg hd] at o
    exact o.elim
/-- return e -/
def rRet (i : Nat) (te : XV) : RS := fun gd ρ => rv i (te (ρ.set i (.val gd))) fun d ρ1 => if cln d = true then .ret d gd ρ1 else .bad
theorem rt_ret {te : XV} : RT X i (tRet (lE X.K E te)) (rRet i te) := by
  refine ⟨fun {ρ0 σ0 F0 H0 p as gd ρ σ F H} r0 n0 t C o => ?_⟩
  obtain ⟨d, ρ1, e, hc, e2⟩ := rv_of (show rv i _ _ ≠ .bad from out_ne o)
  unfold rRet at o
  rw [e2] at o
  by_cases hd : cln d = true
  · rw [if_pos hd] at o
    exact view_E t r0 e hc hd fun F2 H2 v s t2 rp => o _ _ _ _ _ s t2 rp
  · rw [if_neg hd] at o
    exact o.elim
end
structure RI (X : Cx) (i : Nat) (wi : TI) (ti : D → XA) : Prop where
  go : ∀ {ρ0 : Rho} {σ0 : L2.St} {F0 H0 : Hp} {p : Addr} {as : List Addr} {gd : D} {ρ : Rho} {σ : L2.St} {F H : Hp} {ds : List D} {ρ1 : Rho}, Rel X.K F0 H0 ρ0 σ0 → OG X.K ρ0 σ0 F0 H0 i p as gd ρ σ F H → ti gd ρ = .ok ds ρ1 →
  ∀ R : It → Hp → Prop, (∀ J F1 H1, Same F F1 → OG X.K ρ0 σ0 F0 H0 i p as gd ρ1 σ F1 H1 → (∀ {ρ' : Rho} {σ' : L2.St} {F' H' : Hp} {as' : List Addr} {gd' : D}, Same F1 F' → OG X.K ρ0 σ0 F0 H0 i p as' gd' ρ' σ' F' H' →
    (∀ k d, ds[k]? = some d → J.go k H' ∧ ∀ x H3, J.yld k H' x H3 → ∃ F3, Gr F' H' F3 H3 ∧ Rp X.K F3 x d) ∧ ∀ k, ds.length ≤ k → J.stop k H') → R J H1) → wi σ H R
def rItL (i : Nat) (te : XV) : D → XA := fun gd ρ => match te (ρ.set i (.val gd)) with
  | .ok (.lst ds) ρ1 => if clnR (ρ1.set i .emp) = true ∧ clns ds = true then .ok ds (ρ1.set i .emp) else .bad
  | _ => .bad
def rItE (i : Nat) (te : XV) : D → XA := fun gd ρ => match te (ρ.set i (.val gd)) with
  | .ok (.lst ds) ρ1 => if clnR (ρ1.set i .emp) = true ∧ clns ds = true then .ok (enumF 0 ds) (ρ1.set i .emp) else .bad
  | _ => .bad
def rItR1 (i : Nat) (te : XV) : D → XA := fun gd ρ => match te (ρ.set i (.val gd)) with
  | .ok (.int b) ρ1 => if clnR (ρ1.set i .emp) = true ∧ inR b = true then .ok (rangeD 0 b.toNat) (ρ1.set i .emp) else .bad
  | _ => .bad
section
variable {X : Cx} {E : EW} {i : Nat} {Tb : TS} {tb : RS}
theorem ri_list {te : XV} : RI X i (iList X.K (lE X.K E te)) (rItL i te) := by
  refine ⟨fun {ρ0 σ0 F0 H0 p as gd ρ σ F H ds ρ1} r0 t h R N => ?_⟩
  unfold rItL at h
  split at h
  · rename_i ds' ρ1' e
    split at h
    · rename_i hc
      cases h
      refine view_E t r0 e hc.1 hc.2 fun F2 H2 v s t2 rp => ?_
      cases rp with
      | @lst a xs _ fa ra =>
        refine ⟨a, rfl, ⟨xs, SqL.of (t2.go.rel.ex _ _ fa)⟩, N _ F2 H2 s t2 fun {ρ' σ' F' H' as' gd'} s' t' => ?_⟩
        have hq : SqL X.K H' a xs := SqL.of (t'.go.rel.ex _ _ (s' _ _ fa))
        refine ⟨fun k d hd => ?_, fun k hk => ⟨xs, hq, by rw [ra.length]; exact hk⟩⟩
        obtain ⟨y, hy, ry⟩ := ra.get hd
        refine ⟨⟨xs, y, hq, hy⟩, fun x H3 yy => ?_⟩
        obtain ⟨rfl, yy⟩ := yy
        have := yy xs hq
        rw [hy] at this
        cases this
        exact ⟨F', Gr.refl t'.go.rel.ex, ry.mono s'⟩
    · cases h
  · cases h
theorem ri_rng1 {te : XV} : RI X i (iRng1 (tCons (lE X.K E te) tNil)) (rItR1 i te) := by
  refine ⟨fun {ρ0 σ0 F0 H0 p as gd ρ σ F H ds ρ1} r0 t h R N => ?_⟩
  unfold rItR1 at h
  split at h
  · rename_i b ρ1' e
    split at h
    · rename_i hc
      cases h
      refine view_E t r0 e hc.1 rfl fun F2 H2 v s t2 rp => ?_
      cases rp
      have hb := (inR_iff b).mp hc.2
      exact ⟨b, rfl, hb.1, hb.2, N _ F2 H2 s t2 fun {ρ' σ' F' H' as' gd'} s' t' => range_turn t'.go.rel.ex⟩
    · cases h
  · cases h
noncomputable def rRun (i : Nat) (g : XG) (tb : RS) : List D → RS
  | [], gd, ρ => .nx gd ρ
  | d :: r, gd, ρ => match unifO i fun p => g d (ρ.set i (.adr p)) with
    | some ρ2 => (tb gd ρ2).seq (rRun i g tb r)
    | none => .bad
noncomputable def rFor (i : Nat) (ti : D → XA) (g : XG) (tb : RS) : RS := fun gd ρ => match ti gd ρ with
  | .ok ds ρ1 => rRun i g tb ds gd ρ1
  | _ => .bad
theorem rt_for {wi : TI} {ti : D → XA} {g : XG} (hi : RI X i wi ti) (hb : RT X i Tb tb) : RT X i (tFor wi (lG X.K tAny g) Tb) (rFor i ti g tb) := by
  refine ⟨fun {ρ0 σ0 F0 H0 p as gd ρ σ F H} r0 n0 t C o => ?_⟩
  unfold rFor at o
  cases e : ti gd ρ with
  | exc _ _ => rw [e] at o; exact o.elim
  | bad => rw [e] at o; exact o.elim
  | ok ds ρ1 =>
  rw [e] at o
  refine hi.go r0 t e _ fun J F1 H1 sF t1 hJ => ?_
  refine ⟨fun n m σ' H' => m = ds.length - n ∧ n ≤ ds.length ∧ ∃ as2 gd2 ρ2 F2, Same F1 F2 ∧ OG X.K ρ0 σ0 F0 H0 i p as2 gd2 ρ2 σ' F2 H' ∧ OutR X.K ρ0 σ0 F0 H0 i p F2 C (rRun i g tb (ds.drop n) gd2 ρ2), ⟨ds.length, rfl, Nat.zero_le _, as, gd, ρ1, F1, Same.refl _, t1, by rw [List.drop_zero]; exact OutR.mono sF o⟩, ?_⟩
  rintro n m σ' H' ⟨rfl, hn, as2, gd2, ρ2, F2, s2, t2, hR⟩
  obtain ⟨j1, j2⟩ := hJ s2 t2
  by_cases hlt : n < ds.length
  · obtain ⟨jg, jy⟩ := j1 n _ (List.getElem?_eq_getElem hlt)
    refine .inr ⟨jg, fun σ3 H3 => n + 1 ≤ ds.length ∧ ∃ as3 gd3 ρ3 F3, Same F1 F3 ∧ OG X.K ρ0 σ0 F0 H0 i p as3 gd3 ρ3 σ3 F3 H3 ∧ OutR X.K ρ0 σ0 F0 H0 i p F3 C (rRun i g tb (ds.drop (n + 1)) gd3 ρ3), fun σ3 H3 hN => ⟨ds.length - (n + 1), by omega, rfl, hN⟩, fun x H3 yy => ?_⟩
    obtain ⟨F3, gr, rx⟩ := jy x H3 yy
    have t3 := t2.step r0 t2.he (gr.go t2.go.rel)
    rw [List.drop_eq_getElem_cons hlt] at hR
    unfold rRun at hR
    cases hu : unifO i fun p => g ds[n] (ρ2.set i (.adr p)) with
    | none => rw [hu] at hR; exact hR.elim
    | some ρ4 =>
    rw [hu] at hR
    obtain ⟨he, hg⟩ := unifO_spec hu
    refine ⟨F3, _, ds[n], _, t3.go.rel, rx, hg p, fun σ4 _ g4 => ?_⟩
    have t4 := t3.step r0 he g4
    refine hb.go r0 n0 t4 _ ?_
    cases hx : tb gd2 ρ4 with
    | bad => simp only [hx] at hR; exact hR
    | ret d gd5 ρ5 =>
      simp only [hx] at hR
      exact OutR.mono (r := .ret d gd5 ρ5) gr.ex hR
    | nx gd5 ρ5 =>
      simp only [hx] at hR
      exact fun σ5 F5 H5 as5 s5 t5 => ⟨hlt, as5, gd5, ρ5, F5, (s2.trans gr.ex).trans s5, t5, OutR.mono (gr.ex.trans s5) hR⟩
  · have e : n = ds.length := by omega
    subst e
    rw [List.drop_length] at hR
    unfold rRun at hR
    exact .inl ⟨j2 _ (Nat.le_refl _), hR _ _ _ _ (Same.refl _) t2⟩
end
end G


set_option maxHeartbeats 4000000
namespace G
open PySem PySem.Spec PyProof.Rows L2

section
variable {K : PySem.W.Frag} {F F' H H' : Hp}
theorem Flds.cons {v : V} {d : D} {an : List Addr} (n : Flds K F H [v] [d] an) {vs : List V} {ds : List D} {as : List Addr} (t : Flds K F H vs ds as) : Flds K F H (v :: vs) (d :: ds) (an ++ as) := by
  cases n with
  | val o1 r t0 => cases t0; exact .val o1 r t
  | own o1 f1 h1 r1 t0 => cases t0; exact .own o1 f1 h1 r1 t
/-- a field is set -/
theorem Flds.put {f : Str} {v : V} {d : D} {an : List Addr} (n : Flds K F H [v] [d] an) : ∀ {fs : List (Str × V)} {es : List (Str × D)} {as : List Addr}, fs.map (·.1) = es.map (·.1) → Flds K F H (fs.map (·.2)) (es.map (·.2)) as →
    ∃ as', (putF f v fs).map (·.1) = (putD f d es).map (·.1) ∧ Flds K F H ((putF f v fs).map (·.2)) ((putD f d es).map (·.2)) as' ∧ (∀ q ∈ as', q ∈ as ∨ q ∈ an) ∧ ((an ++ as).Nodup → as'.Nodup)
  | [], [], _, _, .nil => ⟨an, rfl, n, fun q h => .inr h, fun h => by rw [List.append_nil] at h; exact h⟩
  | [], _ :: _, _, k, _ => by cases k
  | _ :: _, [], _, k, _ => by cases k
  | (g, x) :: fs, (g', y) :: es, as, k, t => by
    rw [List.map_cons, List.map_cons] at k
    injection k with k1 k2
    have k1 : g = g' := k1
    subst k1
    have t : Flds K F H (x :: fs.map (·.2)) (y :: es.map (·.2)) as := t
    unfold putF putD
    by_cases hg : g = f
    · rw [if_pos hg, if_pos hg]
      cases t with
      | val o1 r t => exact ⟨an ++ as, by rw [List.map_cons, List.map_cons, k2], n.cons t, fun q h => (List.mem_append.mp h).elim .inr .inl, fun h => h⟩
      | own o1 f1 h1 r1 tl => exact ⟨_, by rw [List.map_cons, List.map_cons, k2], n.cons tl, fun q h => (List.mem_append.mp h).elim .inr fun h => .inl (List.mem_cons_of_mem _ h), fun h => by
          rw [List.nodup_append] at h ⊢
          exact ⟨h.1, (List.nodup_cons.mp h.2.1).2, fun a ha b hb => h.2.2 a ha b (List.mem_cons_of_mem _ hb)⟩⟩
    · rw [if_neg hg, if_neg hg]
      cases t with
      | val o1 r t =>
        obtain ⟨as', e1, e2, e3, e4⟩ := Flds.put (f := f) n k2 t
        exact ⟨as', by rw [List.map_cons, List.map_cons, e1], .val o1 r e2, e3, e4⟩
      | @own q _ _ _ _ _ o1 f1 h1 r1 tl =>
        obtain ⟨as', e1, e2, e3, e4⟩ := Flds.put (f := f) n k2 tl
        refine ⟨_ :: as', by rw [List.map_cons, List.map_cons, e1], .own o1 f1 h1 r1 e2, fun b hb => ?_, fun h => ?_⟩
        · rcases List.mem_cons.mp hb with rfl | hb
          · exact .inl List.mem_cons_self
          · exact (e3 b hb).elim (fun z => .inl (List.mem_cons_of_mem _ z)) .inr
        · rw [List.nodup_append] at h
          obtain ⟨n1, n2, n3⟩ := h
          refine List.nodup_cons.mpr ⟨fun hq => ?_, e4 (List.nodup_append.mpr ⟨n1, (List.nodup_cons.mp n2).2, fun a ha b hb => n3 a ha b (List.mem_cons_of_mem _ hb)⟩)⟩
          rcases e3 q hq with z | z
          · exact (List.nodup_cons.mp n2).1 z
          · exact n3 q z q List.mem_cons_self rfl
/-- the dict of a field -/
theorem Flds.look {f : Str} {d : D} (ho : ownF d = true) : ∀ {fs : List (Str × V)} {es : List (Str × D)} {as : List Addr}, fs.map (·.1) = es.map (·.1) → Flds K F H (fs.map (·.2)) (es.map (·.2)) as → es.lookup f = some d →
    ∃ q o, fs.lookup f = some (.ref q) ∧ q ∈ as ∧ F q = none ∧ H q = some o ∧ Ro K F q o d
  | [], [], _, _, .nil, e => by cases e
  | [], _ :: _, _, k, _, _ => by cases k
  | _ :: _, [], _, k, _, _ => by cases k
  | (g, x) :: fs, (g', y) :: es, as, k, t, e => by
    rw [List.map_cons, List.map_cons] at k
    injection k with k1 k2
    have k1 : g = g' := k1
    subst k1
    have t : Flds K F H (x :: fs.map (·.2)) (y :: es.map (·.2)) as := t
    simp only [List.lookup_cons] at e ⊢
    by_cases hg : (f == g) = true
    · rw [hg] at e ⊢
      simp only at e ⊢
      cases e
      cases t with
      | val o1 _ _ => rw [ho] at o1; cases o1
      | own o1 f1 h1 r1 t => exact ⟨_, _, rfl, List.mem_cons_self, f1, h1, r1⟩
    · have hg := Bool.eq_false_iff.mpr hg
      rw [hg] at e ⊢
      simp only at e ⊢
      cases t with
      | val o1 _ t => exact Flds.look ho k2 t e
      | own o1 f1 h1 r1 tl =>
        obtain ⟨q, o, e1, e2, e3⟩ := Flds.look ho k2 tl e
        exact ⟨q, o, e1, List.mem_cons_of_mem _ e2, e3⟩
/-- .. which changes -/
theorem Flds.mut {f : Str} {d d' : D} {o' : HO} {q : Addr} (ho : ownF d = true) (ho' : ownF d' = true) (ro : Ro K F q o' d') : ∀ {fs : List (Str × V)} {es : List (Str × D)} {as : List Addr}, fs.map (·.1) = es.map (·.1) → Flds K F H (fs.map (·.2)) (es.map (·.2)) as → as.Nodup → fs.lookup f = some (.ref q) → es.lookup f = some d →
    fs.map (·.1) = (putD f d' es).map (·.1) ∧ Flds K F (upd H q o') (fs.map (·.2)) ((putD f d' es).map (·.2)) as
  | [], [], _, _, .nil, _, _, e => by cases e
  | [], _ :: _, _, k, _, _, _, _ => by cases k
  | _ :: _, [], _, k, _, _, _, _ => by cases k
  | (g, x) :: fs, (g', y) :: es, as, k, t, nd, e1, e => by
    rw [List.map_cons, List.map_cons] at k
    injection k with k1 k2
    have k1 : g = g' := k1
    subst k1
    have t : Flds K F H (x :: fs.map (·.2)) (y :: es.map (·.2)) as := t
    simp only [List.lookup_cons] at e e1
    unfold putD
    by_cases hg : g = f
    · have hb : (f == g) = true := beq_iff_eq.mpr hg.symm
      rw [hb] at e e1
      simp only at e e1
      cases e
      cases e1
      rw [if_pos hg]
      refine ⟨by rw [List.map_cons, List.map_cons, k2], ?_⟩
      cases t with
      | val o1 _ _ => rw [ho] at o1; cases o1
      | own o1 f1 h1 r1 tl =>
        refine .own ho' f1 upd_same ro (tl.mono' (Same.refl F) fun b hb => ⟨(tl.has b hb).1, upd_ne (fun z => (List.nodup_cons.mp nd).1 (by rw [← z]; exact hb))⟩)
    · have hb : (f == g) = false := by rw [beq_eq_false_iff_ne]; exact fun z => hg z.symm
      rw [hb] at e e1
      simp only at e e1
      rw [if_neg hg]
      cases t with
      | val o1 r t =>
        obtain ⟨m1, m2⟩ := Flds.mut ho ho' ro k2 t nd e1 e
        exact ⟨by rw [List.map_cons, List.map_cons, m1], .val o1 r m2⟩
      | own o1 f1 h1 r1 tl =>
        obtain ⟨m1, m2⟩ := Flds.mut ho ho' ro k2 tl (List.nodup_cons.mp nd).2 e1 e
        obtain ⟨q2, o2, z1, z2, _⟩ := Flds.look ho k2 tl e
        rw [e1] at z1
        cases z1
        exact ⟨by rw [List.map_cons, List.map_cons, m1], .own o1 f1 (by rw [upd_ne (fun z => (List.nodup_cons.mp nd).1 (by rw [z]; exact z2))]; exact h1) r1 m2⟩
end
def fldI (f : Str) : D → Option D
  | .inst _ es => es.lookup f
  | _ => none
def putI (f : Str) (d : D) : D → D
  | .inst c es => .inst c (putD f d es)
  | x => x
def clsI (c : String) : D → Bool
  | .inst c' es => decide (c' = c) && decide (es.length < 1000)
  | _ => false
/-- self.f[k] = v -/
def rDPut (i : Nat) (c : String) (f : Str) (tk te : XV) : RS := fun gd ρ => rv i (te (ρ.set i (.val gd))) fun v ρ1 => if cln v = true then rv i (tk (ρ1.set i (.val gd))) fun k ρ2 =>
  if cln k = true ∧ clsI c gd = true then (match fldI f gd with
    | some d => if ownF d = true then (match dPutD d k v with
      | some d' => if ownF d' = true then .nx (putI f d' gd) ρ2 else .bad
      | none => .bad) else .bad
    | none => .bad) else .bad else .bad
/-- self.f = v -/
def rFSet (i : Nat) (c : String) (f : Str) (te : XV) : RS := fun gd ρ => rv i (te (ρ.set i (.val gd))) fun v ρ1 => if cln v = true ∧ clsI c gd = true then .nx (putI f v gd) ρ1 else .bad
/-- self.f = {} -/
def rFNew (c : String) (f : Str) : RS := fun gd ρ => if clsI c gd = true then .nx (putI f (.dicT false []) gd) ρ else .bad
/-- self.f = x, a dict of the def's own -/
def rFTake (i j : Nat) (c : String) (f : Str) : RS := fun gd ρ => match ρ[j]? with
  | some (.own (.dicT false es)) => if clsI c gd = true ∧ i ≠ j then .nx (putI f (.dicT false es) gd) (ρ.set j .emp) else .bad
  | _ => .bad
theorem cln_ownF {d : D} (h : cln d = true) : ownF d = false := by
  cases d with
  | dicT z es => unfold cln at h; cases h
  | _ => rfl
section
variable {X : Cx} {E : EW} {i : Nat} {c : String} {C : Addr} {f : Str}
theorem clsI_of {K : PySem.W.Frag} {F H : Hp} {p : Addr} {as : List Addr} {gd : D} (hc : ClsAt K c C) (h : clsI c gd = true) (cm : Cmp K F H p as gd) : ∃ dx fs es, gd = .inst c es ∧ H p = some (.ins C dx fs) ∧ fs.length < 1000 ∧ fs.map (·.1) = es.map (·.1) ∧ Flds K F H (fs.map (·.2)) (es.map (·.2)) as := by
  obtain ⟨C', dx, c', fs, es, rfl, e2, e3, e4, e5⟩ := cm.ex
  unfold clsI at h
  rw [Bool.and_eq_true, decide_eq_true_eq, decide_eq_true_eq] at h
  obtain ⟨rfl, hl⟩ := h
  obtain rfl := hc.uniq e2
  have : fs.length = es.length := by
    have := congrArg List.length e4
    rwa [List.length_map, List.length_map] at this
  exact ⟨dx, fs, es, rfl, e3, by omega, e4, e5⟩
theorem rt_dput (hc : ClsAt X.K c C) (cl : Cls X.K C) (na : NoAttr X.K C f) {tk te : XV} : RT X i (sDPut (tFld X.K (tVar i) f) (lE X.K E tk) (lE X.K E te)) (rDPut i c f tk te) := by
  refine ⟨fun {ρ0 σ0 F0 H0 p as gd ρ σ F H} r0 n0 t Cn o => ?_⟩
  obtain ⟨v, ρ1, e, hr, e2⟩ := rv_of (show rv i _ _ ≠ .bad from out_ne o)
  unfold rDPut at o
  rw [e2] at o
  by_cases hv : cln v = true
  rotate_left
  · rw [if_neg hv] at o; exact o.elim
  rw [if_pos hv] at o
  refine view_E t r0 e hr hv fun F2 H2 w s t2 rp => ?_
  obtain ⟨kd, ρ2, e3, hr2, e4⟩ := rv_of (show rv i _ _ ≠ .bad from out_ne o)
  rw [e4] at o
  by_cases hk : cln kd = true ∧ clsI c gd = true
  rotate_left
  · rw [if_neg hk] at o; exact o.elim
  rw [if_pos hk] at o
  obtain ⟨dx, fs, es, rfl, g3, g4, g5, g6⟩ := clsI_of hc hk.2 t2.cm
  cases hf : fldI f (.inst c es) with
  | none => rw [hf] at o; exact o.elim
  | some d =>
  rw [hf] at o
  simp only at o
  by_cases ho : ownF d = true
  rotate_left
  · rw [if_neg ho] at o; exact o.elim
  rw [if_pos ho] at o
  cases hp : dPutD d kd v with
  | none => rw [hp] at o; exact o.elim
  | some d' =>
  rw [hp] at o
  simp only at o
  by_cases ho' : ownF d' = true
  rotate_left
  · rw [if_neg ho'] at o; exact o.elim
  rw [if_pos ho'] at o
  obtain ⟨q, _, l1, l2, _, _, _⟩ := g6.look ho g5 hf
  refine ⟨.ref p, t2.slot, p, C, dx, fs, .ref q, rfl, g3, cl, na, l1, ?_⟩
  refine view_Ek t2 r0 e3 hr2 hk.1 fun F3 H3 u s3 t3 rk kq => ?_
  have b3 : H3 p = some (.ins C dx fs) := (kq p List.mem_cons_self).trans g3
  obtain ⟨dx3, fs3, es3, ee, b3', b4, b5, b6⟩ := clsI_of hc hk.2 t3.cm
  cases ee
  rw [b3] at b3'
  cases b3'
  obtain ⟨q3, o3, m1, m2, m3, m4, m5⟩ := b6.look ho b5 hf
  rw [l1] at m1
  cases m1
  obtain ⟨o', n1, n2⟩ := dput_ro hp m5 m4 t3.go.rel.ex rk (rp.mono s3)
  refine ⟨q, _, rfl, n1, ?_⟩
  have nd := t3.cm.nd
  have pq : p ≠ q := fun z => (List.nodup_cons.mp nd).1 (by rw [z]; exact m2)
  obtain ⟨y1, y2⟩ := b6.mut ho ho' n2 b5 (List.nodup_cons.mp nd).2 l1 hf
  have t4 := t3.mutC r0 n0 (F' := F3) (H' := upd H3 q o') (as' := as) (gd' := .inst c (putD f d' es)) ⟨Same.refl F3, fun a u h => by
      rw [upd_ne (fun z => by rw [z, m3] at h; cases h)]
      exact t3.go.rel.ex a u h, fun z u hz h => ⟨by rw [upd_ne (fun y => hz (by rw [y]; exact List.mem_cons_of_mem _ m2))]; exact h, fun _ e => e⟩⟩
    ⟨⟨C, dx, c, fs, _, rfl, hc, by rw [upd_ne pq]; exact b3, y1, y2⟩, t3.cm.fp, nd⟩ fun b hb => .inl hb
  exact o _ _ _ _ (s.trans s3) t4
/-- the instance with a field set -/
theorem OG.setF {ρ0 ρ : Rho} {σ0 σ : L2.St} {F0 H0 F H : Hp} {p : Addr} {as : List Addr} {gd : D} (t : OG X.K ρ0 σ0 F0 H0 i p as gd ρ σ F H) (r0 : Rel X.K F0 H0 ρ0 σ0) (n0 : NoOwn ρ0) (hc : ClsAt X.K c C) {dx : Addr} {fs : List (Str × V)} {es : List (Str × D)} (eg : gd = .inst c es) (hp : H p = some (.ins C dx fs)) (ek : fs.map (·.1) = es.map (·.1)) (fl : Flds X.K F H (fs.map (·.2)) (es.map (·.2)) as) {v : V} {d : D} {an : List Addr} (n : Flds X.K F H [v] [d] an) (ha : ∀ q ∈ an, q ∉ p :: as ∧ H0 q = none ∧ ¬ Own (ρ.set i (.adr p)) σ q) (nd : an.Nodup) :
    ∃ as', OG X.K ρ0 σ0 F0 H0 i p as' (.inst c (putD f d es)) ρ σ F (upd H p (.ins C dx (putF f v fs))) := by
  obtain ⟨as', e1, e2, e3, e4⟩ := n.put (f := f) ek fl
  have nda := List.nodup_cons.mp t.cm.nd
  have nd1 : as'.Nodup := e4 (List.nodup_append.mpr ⟨nd, nda.2, fun a ha' b hb z => (ha a ha').1 (by rw [z]; exact List.mem_cons_of_mem _ hb)⟩)
  have np : p ∉ as' := fun z => (e3 p z).elim nda.1 fun h => (ha p h).1 List.mem_cons_self
  have hq : ∀ q ∈ as', F q = none ∧ ∃ kvs, H q = some (.dT kvs) := e2.has
  refine ⟨as', t.mutC r0 n0 (F' := F) ⟨Same.refl F, fun a u h => ?_, fun z u hz h => ⟨by rw [upd_ne (fun y => hz (by rw [y]; exact List.mem_cons_self))]; exact h, fun _ e => e⟩⟩ ⟨⟨C, dx, c, _, _, rfl, hc, upd_same, e1, e2.mono' (Same.refl F) fun q h => ⟨(hq q h).1, upd_ne (fun z => np (by rw [← z]; exact h))⟩⟩, t.cm.fp, List.nodup_cons.mpr ⟨np, nd1⟩⟩ fun q h => (e3 q h).elim .inl fun z => .inr (.inr (ha q z).2)⟩
  rw [upd_ne (fun z => by rw [z, t.cm.fp] at h; cases h)]
  exact t.go.rel.ex a u h
theorem rt_fset (hc : ClsAt X.K c C) (cl : Cls X.K C) (na : NoAttr X.K C f) {te : XV} : RT X i (sFld X.K (tVar i) (lE X.K E te) f) (rFSet i c f te) := by
  refine ⟨fun {ρ0 σ0 F0 H0 p as gd ρ σ F H} r0 n0 t Cn o => ?_⟩
  obtain ⟨v, ρ1, e, hr, e2⟩ := rv_of (show rv i _ _ ≠ .bad from out_ne o)
  unfold rFSet at o
  rw [e2] at o
  by_cases hv : cln v = true ∧ clsI c gd = true
  rotate_left
  · rw [if_neg hv] at o; exact o.elim
  rw [if_pos hv] at o
  refine view_E t r0 e hr hv.1 fun F2 H2 w s t2 rp => ?_
  obtain ⟨dx, fs, es, rfl, g3, g4, g5, g6⟩ := clsI_of hc hv.2 t2.cm
  obtain ⟨as', t3⟩ := t2.setF r0 n0 hc (f := f) rfl g3 g5 g6 (.val (cln_ownF hv.1) rp .nil) (fun q h => absurd h List.not_mem_nil) List.nodup_nil
  exact ⟨.ref p, t2.slot, p, C, dx, fs, rfl, g3, cl, na, g4, o _ _ _ _ s t3⟩
theorem rt_fnew (hc : ClsAt X.K c C) (cl : Cls X.K C) (na : NoAttr X.K C f) : RT X i (sFld X.K (tVar i) tDNewT f) (rFNew c f) := by
  refine ⟨fun {ρ0 σ0 F0 H0 p as gd ρ σ F H} r0 n0 t Cn o => ?_⟩
  unfold rFNew at o
  by_cases hv : clsI c gd = true
  rotate_left
  · rw [if_neg hv] at o; exact o.elim
  rw [if_pos hv] at o
  intro q hq
  have gr := Gr.newO (o := .dT []) t.go.rel.ex hq
  have t1 := t.step r0 t.he (gr.go t.go.rel)
  have fq : F q = none := t.go.rel.ex.free hq
  obtain ⟨dx, fs, es, rfl, g3, g4, g5, g6⟩ := clsI_of hc hv t1.cm
  have qn : q ∉ p :: as := fun z => by
    obtain ⟨o', h1, _⟩ := t.at_ q z
    rw [hq] at h1
    cases h1
  have own0 : ¬ Own (ρ.set i (.adr p)) σ q := not_own_new t.go.rel hq
  have h0 : H0 q = none := by
    cases e : H0 q with
    | none => rfl
    | some u => rw [t.go.sameH r0 e (n0.own q)] at hq; cases hq
  obtain ⟨as', t3⟩ := t1.setF r0 n0 hc (f := f) (v := .ref q) (d := .dicT false []) rfl g3 g5 g6 (.own rfl fq upd_same (Ro.dicT (z := false) (o := { cls := .none, data := .fields #[] }) rfl .nil) .nil) (fun b h => by rw [List.mem_singleton.mp h]; exact ⟨qn, h0, own0⟩) (List.pairwise_singleton _ _)
  exact ⟨.ref p, t1.slot, p, C, dx, fs, rfl, g3, cl, na, g4, o _ _ _ _ (Same.refl F) t3⟩
theorem rt_ftake {j : Nat} (hj : j ≠ 0) (hc : ClsAt X.K c C) (cl : Cls X.K C) (na : NoAttr X.K C f) : RT X i (sFld X.K (tVar i) (tVar j) f) (rFTake i j c f) := by
  refine ⟨fun {ρ0 σ0 F0 H0 p as gd ρ σ F H} r0 n0 t Cn o => ?_⟩
  unfold rFTake at o
  split at o
  rotate_left
  · exact o.elim
  rename_i es' hj2
  by_cases hv : clsI c gd = true ∧ i ≠ j
  rotate_left
  · rw [if_neg hv] at o; exact o.elim
  rw [if_pos hv] at o
  have r := t.go.rel
  have hj3 : (ρ.set i (.adr p))[j]? = some (.own (.dicT false es')) := by rw [List.getElem?_set_ne hv.2]; exact hj2
  obtain ⟨b, ob, k1, k2, k3, k4⟩ := r.own hj3
  have ob0 : Own (ρ.set i (.adr p)) σ b := ⟨j, _, hj3, k1⟩
  have hb0 : H0 b = none := by
    rcases t.go.own b ob0 with z | z
    · exact (n0.own b z).elim
    · exact z
  have bn : b ∉ p :: as := fun z => (t.no b z).2.2 ob0
  -- the slot is left
  have g := Go.setSlot (i := j) (s := .emp) (o := some (V.ref b)) hj (fun _ z => by cases z) (fun _ z => by cases z) r .emp
  have es : σ.set j (some (V.ref b)) = σ := by
    obtain ⟨hi, q⟩ := List.getElem?_eq_some_iff.mp k1
    rw [← q]
    exact List.set_getElem_self hi
  rw [es, List.set_comm _ _ hv.2] at g
  have he : (ρ.set j .emp)[i]? = some .emp := by rw [List.getElem?_set_ne (Ne.symm hv.2)]; exact t.he
  have t1 := t.step r0 he g
  have nob : ¬ Own ((ρ.set j .emp).set i (.adr p)) σ b := fun ⟨m, d, h1, h2⟩ => by
    rw [← List.set_comm _ _ hv.2] at h1
    rcases get_set h1 with ⟨_, z⟩ | ⟨hm, h1⟩
    · cases z
    · exact hm (r.dis j m _ _ b hj3 h1 k1 h2)
  obtain ⟨dx, fs, es2, rfl, g3, g4, g5, g6⟩ := clsI_of hc hv.1 t1.cm
  obtain ⟨as', t3⟩ := t1.setF r0 n0 hc (f := f) (v := .ref b) (d := .dicT false es') rfl g3 g5 g6 (.own rfl k2 k3 k4 .nil) (fun q h => by rw [List.mem_singleton.mp h]; exact ⟨bn, hb0, nob⟩) (List.pairwise_singleton _ _)
  exact ⟨.ref b, k1, .ref p, t1.slot, p, C, dx, fs, rfl, g3, cl, na, g4, o _ _ _ _ (Same.refl F) t3⟩
end
end G


set_option maxHeartbeats 4000000
namespace G
open PySem PySem.Spec PyProof.Rows L2

abbrev MF := D → List D → Option (D × D)
def spM (K : PySem.W.Frag) (g : MF) : Sp := fun vs H Q E => ∃ F p as gd vs' ds, vs = .ref p :: vs' ∧ Same F H ∧ Cmp K F H p as gd ∧ RpAll K F vs' ds ∧ match g gd ds with
  | some (d, gd') => ∀ F' H' as', KeepC F H F' H' (p :: as) → Cmp K F' H' p as' gd' → (∀ q ∈ as', q ∈ as ∨ H q = none) → ∀ v, Rp K F' v d → Q v H'
  | none => False
def endM : RF → Option (D × D)
  | .nx gd _ => some (.non, gd)
  | .ret d gd _ => some (d, gd)
  | .bad => none
/-- the start of a method: nothing at self's place, the arguments as values -/
def iniM (n : Nat) (ds : List D) : Rho := .emp :: (ds.map Slot.val ++ List.replicate (n - 1 - ds.length) .emp)
def runM (n : Nat) (body : RS) : MF := fun gd ds => endM (body gd (iniM n ds))
section
variable {P : Program} {w : World} {K : PySem.W.Frag} {mg : Str → Option Value} {base : Heap}
theorem iniM_rel {F H : Hp} (ex : Same F H) {p : Addr} {n : Nat} {vs : List V} {ds : List D} (ra : RpAll K F vs ds) (hn : vs.length ≤ n - 1) : Rel K F H (iniM n ds) (some (.ref p) :: (vs.map some ++ List.replicate (n - 1 - vs.length) none)) := by
  have hl := ra.length
  have no : ∀ (j : Nat) (d : D), (iniM n ds)[j]? ≠ some (.own d) := fun j d h => by
    unfold iniM at h
    cases j with
    | zero => simp at h
    | succ j =>
      rw [List.getElem?_cons_succ] at h
      have := List.mem_of_getElem? h
      rcases List.mem_append.mp this with z | z
      · obtain ⟨_, _, z⟩ := List.mem_map.mp z; cases z
      · have := List.eq_of_mem_replicate z; cases this
  have nr : ∀ (j : Nat) (d : D), (iniM n ds)[j]? ≠ some (.rd d) := fun j d h => by
    unfold iniM at h
    cases j with
    | zero => simp at h
    | succ j =>
      rw [List.getElem?_cons_succ] at h
      have := List.mem_of_getElem? h
      rcases List.mem_append.mp this with z | z
      · obtain ⟨_, _, z⟩ := List.mem_map.mp z; cases z
      · have := List.eq_of_mem_replicate z; cases this
  refine ⟨ex, ?_, fun j s o h1 h2 => ?_, fun j k d1 d2 q h1 => absurd h1 (no j d1), fun j d q h1 => absurd h1 (nr j d)⟩
  · unfold iniM
    simp only [List.length_cons, List.length_append, List.length_map, List.length_replicate]
    omega
  · unfold iniM at h1
    cases j with
    | zero => simp at h1 h2; subst h1 h2; exact .emp
    | succ j =>
      rw [List.getElem?_cons_succ] at h1 h2
      by_cases hj : j < ds.length
      · rw [List.getElem?_append_left (by rw [List.length_map]; exact hj), List.getElem?_map] at h1
        rw [List.getElem?_append_left (by rw [List.length_map]; omega), List.getElem?_map] at h2
        cases e1 : ds[j]? with
        | none => rw [e1] at h1; cases h1
        | some d =>
          obtain ⟨v, k1, k2⟩ := ra.get e1
          rw [e1] at h1
          rw [k1] at h2
          cases h1
          cases h2
          exact .val k2
      · rw [List.getElem?_append_right (by rw [List.length_map]; omega), List.getElem?_replicate] at h1
        split at h1
        · cases h1; exact .emp
        · cases h1
theorem iniM_no (n : Nat) (ds : List D) : NoOwn (iniM n ds) := fun s hs d e => by
  subst e
  unfold iniM at hs
  rcases List.mem_cons.mp hs with z | z
  · cases z
  · rcases List.mem_append.mp z with z | z
    · obtain ⟨_, _, z⟩ := List.mem_map.mp z; cases z
    · have := List.eq_of_mem_replicate z; cases this
/-- H without the places S -/
def woH (H : Hp) (S : List Addr) : Hp := fun b => if b ∈ S then none else H b
theorem fn_M {x qual : Str} {st : Stmt} {f : Addr} {fd : FuncData} {N ps : List Str} {k n : Nat} {body : RS} {g : MF} (FN : Fun K x qual st f fd) (S : FnScope N ps (defScope st)) (hn : N.length = n) (hg : g = runM n body) (hp : ps.length ≤ n) (hb : ∀ gd ds, ds.length + 1 ≠ ps.length → g gd ds = none)
    (hbody : ∀ (cdv : Value) (A : Around) (outer : List Env) (s : Shared) (H : Hp) (E : XK), Room k (A.deeper (envOfC qual (defScope st) s.heap.objs.size f cdv)) →
      ∃ T, PSs (cxOf (L2.CX P w) P w K mg base N qual (defScope st) f cdv A outer s H E) (defBody st) T ∧ RT (cxOf (L2.CX P w) P w K mg base N qual (defScope st) f cdv A outer s H E) 0 T body) : FnOk P w K mg base (L2.CX P w) (k + 1) f fd ps (spM K g) := by
  subst hn
  have len : ∀ vs H Q E, spM K g vs H Q E → vs.length = ps.length := fun vs H Q E h => by
    obtain ⟨F, p, as, gd, vs', ds, rfl, _, _, ra, h⟩ := h
    refine Classical.byContradiction fun z => ?_
    rw [hb gd ds (by rw [← ra.length]; exact fun y => z (by rw [List.length_cons, y]))] at h
    exact h
  refine FN.okX S len fun cdv A outer s H vs Q E hr h => ?_
  obtain ⟨T, hT1, hT2⟩ := hbody cdv A outer s H E hr
  refine ⟨T, hT1, ?_⟩
  have hlen := len vs H Q E h
  obtain ⟨F, p, as, gd, vs', ds, rfl, ex, cm, ra, h⟩ := h
  rw [List.length_cons] at hlen
  have es : L2.start N (.ref p :: vs') = some (.ref p) :: (vs'.map some ++ List.replicate (N.length - 1 - vs'.length) none) := by
    unfold L2.start
    rw [List.map_cons, List.length_cons, show N.length - (vs'.length + 1) = N.length - 1 - vs'.length by omega]
    rfl
  rw [es]
  have r := iniM_rel (p := p) (n := N.length) ex ra (by omega)
  have nf : ∀ q ∈ p :: as, F q = none := fun q hq => by
    obtain ⟨_, _, _, _, _, _, _, _, _, fl⟩ := cm.ex
    rcases List.mem_cons.mp hq with rfl | hq
    · exact cm.fp
    · exact (fl.has q hq).1
  have exW : Same F (woH H (p :: as)) := fun a o e => by
    unfold woH
    rw [if_neg (fun z => by rw [nf a z] at e; cases e)]
    exact ex a o e
  have rW := iniM_rel (p := p) (n := N.length) exW ra (by omega)
  have hadr : ∀ {m : Nat} {u : Slot}, ((iniM N.length ds).set 0 (.adr p))[m]? = some u → (m = 0 ∧ u = .adr p) ∨ (m ≠ 0 ∧ (iniM N.length ds)[m]? = some u) := fun {m u} h => by
    rcases get_set h with ⟨e, z⟩ | ⟨e, h⟩
    · exact .inl ⟨e.symm, z⟩
    · exact .inr ⟨fun z => e z.symm, h⟩
  have n0 := iniM_no N.length ds
  have no : ∀ q, ¬ Own ((iniM N.length ds).set 0 (.adr p)) (some (.ref p) :: (vs'.map some ++ List.replicate (N.length - 1 - vs'.length) none)) q := fun q ⟨m, d, h1, _⟩ => by
    rcases hadr h1 with ⟨_, z⟩ | ⟨_, h1⟩
    · cases z
    · exact n0 _ (List.mem_of_getElem? h1) d rfl
  have g0 : Go K (iniM N.length ds) (some (.ref p) :: (vs'.map some ++ List.replicate (N.length - 1 - vs'.length) none)) F (woH H (p :: as)) ((iniM N.length ds).set 0 (.adr p)) (some (.ref p) :: (vs'.map some ++ List.replicate (N.length - 1 - vs'.length) none)) F H := by
    refine ⟨⟨ex, by rw [List.length_set]; exact r.len, fun m u o h1 h2 => ?_, fun m k d1 d2 q h1 h2 => ?_, fun m d q h1 h2 h3 => no q h3⟩, Same.refl F, fun a o h1 h2 _ => ?_, fun q h => (no q h).elim, rfl, fun d h => ?_, fun m d h => ?_⟩
    · rcases hadr h1 with ⟨rfl, rfl⟩ | ⟨_, h1⟩
      · simp at h2; subst h2; exact .adr
      · exact r.at' m u o h1 h2
    · rcases hadr h1 with ⟨_, z⟩ | ⟨_, h1⟩
      · cases z
      · exact absurd rfl (n0 _ (List.mem_of_getElem? h1) d1)
    · unfold woH at h1
      split at h1
      · cases h1
      · exact ⟨h1, fun _ => h2⟩
    · exact absurd rfl (n0 _ (List.mem_of_getElem? h) d)
    · rcases hadr h with ⟨_, z⟩ | ⟨_, h⟩
      · cases z
      · exact ⟨h, rfl⟩
  have t : OG K (iniM N.length ds) (some (.ref p) :: (vs'.map some ++ List.replicate (N.length - 1 - vs'.length) none)) F (woH H (p :: as)) 0 p as gd (iniM N.length ds) (some (.ref p) :: (vs'.map some ++ List.replicate (N.length - 1 - vs'.length) none)) F H :=
    ⟨g0, rfl, cm, fun q hq => ⟨by unfold woH; rw [if_pos hq], nf q hq, no q⟩⟩
  have fin : ∀ {d gd' : D} {ρ' : Rho} {σ' : L2.St} {F' H' : Hp} {as' : List Addr} {v : V}, g gd ds = some (d, gd') → OG K (iniM N.length ds) (some (.ref p) :: (vs'.map some ++ List.replicate (N.length - 1 - vs'.length) none)) F (woH H (p :: as)) 0 p as' gd' ρ' σ' F' H' → Rp K F' v d → Q v H' := fun {d gd' ρ' σ' F' H' as' v} eg t' rp => by
    rw [eg] at h
    refine h F' H' as' ⟨t'.go.ex, t'.go.rel.ex, fun z o hz h1 => ?_⟩ t'.cm (fun q hq => ?_) v rp
    · have h2 : woH H (p :: as) z = some o := by unfold woH; rw [if_neg hz]; exact h1
      exact ⟨t'.go.sameH rW h2 (n0.own z), fun n e => (t'.go.keep z o h2 e (n0.own z)).2 n⟩
    · have := (t'.no q (List.mem_cons_of_mem _ hq)).1
      unfold woH at this
      by_cases hs : q ∈ p :: as
      · rcases List.mem_cons.mp hs with rfl | hs
        · exact absurd hq (List.nodup_cons.mp t'.cm.nd).1
        · exact .inl hs
      · rw [if_neg hs] at this
        exact .inr this
  refine hT2.go rW n0 t _ ?_
  subst hg
  cases e : body gd (iniM N.length ds) with
  | nx gd' ρ' => exact fun σ' F' H' as' _ t' => fin (v := .non) (by unfold runM; rw [e]; rfl) t' .non
  | ret d gd' ρ' => exact fun σ' F' H' as' v _ t' rp => fin (by unfold runM; rw [e]; rfl) t' rp
  | bad =>
    unfold runM at h
    rw [e] at h
    exact h
end
def rvA (i : Nat) (ta : XA) (k : List D → Rho → RF) : RS := fun gd ρ => rv i (ta (ρ.set i (.val gd))) fun ds ρ1 => if clns ds = true then k ds ρ1 else .bad
def rM1 (r : Option (D × D)) (k : D → D → Rho → RF) (ρ : Rho) : RF := match r with
  | some (d, gd) => k d gd ρ
  | none => .bad
/-- X.m(..), then k -/
def rMeth (i : Nat) (c : String) (m : Str) (g : MF) (ta : XA) (k : D → D → Rho → RF) : RS := fun gd ρ => rvA i ta (fun ds ρ1 => if isIns c m gd = true then rM1 (g gd ds) k ρ1 else .bad) gd ρ
/-- X.m(..) as a statement -/
def rCall (i : Nat) (c : String) (m : Str) (g : MF) (ta : XA) : RS := rMeth i c m g ta fun _ gd ρ => .nx gd ρ
/-- if X.m(..) .. -/
def rIfM (i : Nat) (c : String) (m : Str) (g : MF) (ta : XA) (t1 t2 : RS) : RS := rMeth i c m g ta fun d gd ρ => match d with
  | .bl true => t1 gd ρ
  | .bl false => t2 gd ρ
  | _ => .bad
section
variable {X : Cx} {i : Nat} {c : String} {C : Addr} {m : Str} {g : MF} {E : EW} {cv : String → Value} {W : WX} {E' : L2.St → XK}
theorem meth_R {ρ0 ρ : Rho} {σ0 σ : L2.St} {F0 H0 F H : Hp} {p : Addr} {as : List Addr} {gd : D} (t : OG X.K ρ0 σ0 F0 H0 i p as gd ρ σ F H) (r0 : Rel X.K F0 H0 ρ0 σ0) (n0 : NoOwn ρ0) (hc : ClsAt X.K c C) {ta : XA} {k : D → D → Rho → RF} (hk : rMeth i c m g ta k gd ρ ≠ .bad) {Q : VK}
    (q : ∀ d gd' ρ' F2 H2 as2 v, rMeth i c m g ta k gd ρ = k d gd' ρ' → Same F F2 → OG X.K ρ0 σ0 F0 H0 i p as2 gd' ρ' σ F2 H2 → Rp X.K F2 v d → Q v H2) : tMethS C m (spM X.K g) E' (tVar i) (lA X.K E ta) σ H Q := by
  unfold rMeth rvA at hk q
  obtain ⟨ds, ρ1, e, hr, e2⟩ := rv_of hk
  rw [e2] at hk q
  by_cases hd : clns ds = true
  rotate_left
  · rw [if_neg hd] at hk; exact absurd rfl hk
  rw [if_pos hd] at hk q
  dsimp only at hk q
  by_cases hi : isIns c m gd = true
  rotate_left
  · rw [if_neg hi] at hk; exact absurd rfl hk
  rw [if_pos hi] at hk q
  obtain ⟨C', dx, c', fs, es, e1, h1, h2, h3, h4⟩ := t.cm.ex
  subst e1
  have hi2 := hi
  unfold isIns at hi2
  rw [Bool.and_eq_true, decide_eq_true_eq] at hi2
  obtain ⟨rfl, hnm⟩ := hi2
  obtain rfl := hc.uniq h1
  have hlk : fs.lookup m = none := by
    have key : ∀ {fs : List (Str × V)} {es : List (Str × D)}, fs.map (·.1) = es.map (·.1) → es.lookup m = none → fs.lookup m = none := by
      intro fs
      induction fs with
      | nil => intro es _ _; rfl
      | cons a fs ih =>
        intro es k1 k2
        cases es with
        | nil => cases k1
        | cons b es =>
          obtain ⟨a1, a2⟩ := a
          obtain ⟨b1, b2⟩ := b
          rw [List.map_cons, List.map_cons] at k1
          injection k1 with k3 k4
          have k3 : a1 = b1 := k3
          subst k3
          simp only [List.lookup_cons] at k2 ⊢
          split at k2
          · cases k2
          · exact ih k4 k2
    exact key h3 (Option.isNone_iff_eq_none.mp hnm)
  refine ⟨.ref p, t.slot, p, dx, fs, rfl, h2, hlk, ?_⟩
  refine view_A t r0 e hr hd fun F2 H2 vs s t2 ra => ?_
  refine ⟨F2, p, as, _, vs, ds, rfl, t2.go.rel.ex, t2.cm, ra, ?_⟩
  cases eg : g (.inst c' es) ds with
  | none => rw [eg] at hk; exact absurd rfl hk
  | some x =>
    obtain ⟨d, gd'⟩ := x
    rw [eg] at q
    intro F' H' as' kc cm' new v rp
    exact q d gd' _ F' H' as' v rfl (s.trans kc.ex) (t2.mutC r0 n0 kc cm' fun b hb => (new b hb).elim .inl fun z => .inr (.inl z)) rp
theorem rt_call (hc : ClsAt X.K c C) {ta : XA} : RT X i (tDrop (tMethS C m (spM X.K g) E' (tVar i) (lA X.K E ta))) (rCall i c m g ta) := by
  refine ⟨fun {ρ0 σ0 F0 H0 p as gd ρ σ F H} r0 n0 t Cn o => ?_⟩
  refine meth_R t r0 n0 hc (k := fun _ gd ρ => .nx gd ρ) (out_ne o) fun d gd' ρ' F2 H2 as2 v e s t2 rp => ?_
  unfold rCall at o
  rw [e] at o
  exact o _ _ _ _ s t2
theorem rt_ifM (hc : ClsAt X.K c C) {ta : XA} {T1 T2 : TS} {t1 t2 : RS} (h1 : RT X i T1 t1) (h2 : RT X i T2 t2) : RT X i (tIfS (tB (tMethS C m (spM X.K g) E' (tVar i) (lA X.K E ta))) T1 T2) (rIfM i c m g ta t1 t2) := by
  refine ⟨fun {ρ0 σ0 F0 H0 p as gd ρ σ F H} r0 n0 t Cn o => ?_⟩
  refine meth_R t r0 n0 hc (k := fun d gd ρ => match d with
    | .bl true => t1 gd ρ
    | .bl false => t2 gd ρ
    | _ => .bad) (out_ne o) fun d gd' ρ' F2 H2 as2 v e s tt rp => ?_
  unfold rIfM at o
  rw [e] at o
  cases d with
  | bl b =>
    cases rp
    refine ⟨b, rfl, ?_⟩
    cases b with
    | true => rw [if_pos rfl]; exact h1.go r0 n0 tt Cn (OutR.mono s o)
    | false => rw [if_neg Bool.false_ne_true]; exact h2.go r0 n0 tt Cn (OutR.mono s o)
  | _ => exact o.elim
end

def make2 (i : Nat) (t : RS) (ρ : Rho) : Option (D × D) → Fl
  | some (.non, gd) => (match t gd (ρ.set i .emp) with
    | .ret d _ ρ' => .ret d ρ'
    | _ => .bad)
  | _ => .bad
def make1R (i : Nat) (c : String) (g : MF) (t : RS) (ds : List D) (ρ : Rho) : Fl := if noOwnA ρ = true ∧ i < ρ.length then make2 i t ρ (g (.inst c []) ds) else .bad
/-- X = C(..); the rest -/
def xRegM (i : Nat) (c : String) (g : MF) (ta : XA) (t : RS) : XS := fun ρ => (ta ρ).fl (make1R i c g t)
section
variable {X : Cx} {i : Nat} {c : String} {C : Addr} {g : MF} {cv : String → Value} {W : WX}
theorem noOwn_of {ρ : Rho} (h : noOwnA ρ = true) : NoOwn ρ := fun s hs d e => by
  subst e
  have := List.all_eq_true.mp h _ hs
  cases this
theorem regM_of {ta : XA} {t : RS} {T : TS} {fr : Bool} (h0 : i ≠ 0) (hf : fr = false) (hc : ClsAt X.K c C) (ht : RT X i T t) {Cn : Ends} {σ : L2.St} {H : Hp} (h : lS X.K (EWx cv W) fr (xRegM i c g ta t) Cn σ H) : tSeq (tAsg (tMakeS C (spM X.K g) (WE W) (lA X.K (EWx cv W) ta)) (gName i)) T Cn σ H := by
  subst hf
  obtain ⟨F, ρ, r, p⟩ := h
  refine ⟨F, ρ, r, (p.fl r).mono fun ds ρ1 F1 H1 g1 q vs ra x dx hx hdx hne => ?_⟩
  have r1 := g1.rel
  unfold PendS make1R at q
  by_cases hn : noOwnA ρ1 = true ∧ i < ρ1.length
  rotate_left
  · rw [if_neg hn] at q; exact q.elim
  rw [if_pos hn] at q
  have n0 := noOwn_of hn.1
  -- the new instance
  have gA := Gr.newO (o := .own x) r1.ex hdx
  have hx2 : (upd H1 dx (.own x)) x = none := by rw [upd_ne (Ne.symm hne)]; exact hx
  have gB := gA.trans (Gr.newO (o := .ins C dx []) gA.sub hx2)
  have fx : F1 x = none := r1.ex.free hx
  have cm0 : Cmp X.K F1 (upd (upd H1 dx (.own x)) x (.ins C dx [])) x [] (.inst c []) := ⟨⟨C, dx, c, [], [], rfl, hc, upd_same, rfl, .nil⟩, fx, List.pairwise_singleton _ _⟩
  refine ⟨F1, x, [], .inst c [], vs, ds, rfl, gB.sub, cm0, ra, ?_⟩
  cases eg : g (.inst c []) ds with
  | none => rw [eg] at q; exact q.elim
  | some y =>
  obtain ⟨d, gd⟩ := y
  rw [eg] at q
  intro F' H' as' kc cm new v rp
  cases d with
  | non =>
    cases rp
    refine ⟨rfl, ?_⟩
    unfold make2 at q
    simp only at q
    -- the place
    have hlen : i < σ.length := by rw [← r1.len]; exact hn.2
    have gS := Go.setSlot (i := i) (s := .adr x) (o := some (V.ref x)) h0 (fun _ z => by cases z) (fun _ z => by cases z) r1 .adr
    have gH := gS.trans r1 (gB.go gS.rel)
    have eS : (ρ1.set i .emp).set i (.adr x) = ρ1.set i (.adr x) := by rw [List.set_set]
    have noX : ∀ q, ¬ Own (ρ1.set i (.adr x)) (σ.set i (some (V.ref x))) q := fun q ⟨m, d, h1, _⟩ => by
      rcases get_set h1 with ⟨_, z⟩ | ⟨_, h1⟩
      · cases z
      · exact n0 _ (List.mem_of_getElem? h1) d rfl
    have t0 : OG X.K ρ1 σ F1 H1 i x [] (.inst c []) (ρ1.set i .emp) (σ.set i (some (V.ref x))) F1 (upd (upd H1 dx (.own x)) x (.ins C dx [])) :=
      ⟨by rw [eS]; exact gH, List.getElem?_set_self hn.2, cm0, fun q hq => by
        rw [List.mem_singleton.mp hq, eS]
        exact ⟨hx, fx, noX x⟩⟩
    have t1 := t0.mutC r1 n0 kc cm fun q hq => (new q hq).elim .inl fun z => .inr (.inl z)
    refine ht.go r1 n0 t1 Cn ?_
    cases er : t gd (ρ1.set i .emp) with
    | ret d gd' ρ' =>
      rw [er] at q
      intro σ' F2 H2 as2 v s t2 rp
      have r2 := t2.go.rel
      have go2 := t2.go.trans r1 (go_slot (s := .adr x) (s' := .emp) r2 t2.slot .emp (fun _ z => by cases z) (fun _ z => by cases z) (fun _ z => by cases z))
      have e3 : ρ'.set i .emp = ρ' := by
        obtain ⟨hi, q⟩ := List.getElem?_eq_some_iff.mp t2.he
        rw [← q]
        exact List.set_getElem_self hi
      rw [e3] at go2
      exact q.1 rfl v σ' F2 H2 go2 rp
    | nx gd' ρ' => rw [er] at q; exact q.elim
    | bad => rw [er] at q; exact q.elim
  | _ => unfold make2 at q; exact q.elim
end
end G


set_option maxHeartbeats 4000000
namespace G
open PySem PySem.Spec PyProof.Rows L2

def tLockN : Nat → TE → TE
  | 0, t => t
  | n + 1, t => tLockE (tLockN n t)
def tLks (t : TE) : TE := fun σ H Q => ∃ n, tLockN n t σ H Q
theorem pe_lockN {X : Cx} {e : Expr} {t : TE} (h : PE X e t) : ∀ n, PE X e (tLockN n t)
  | 0 => h
  | n + 1 => pe_lock (pe_lockN h n)
theorem pe_lks {X : Cx} {e : Expr} {t : TE} (h : PE X e t) : PE X e (tLks t) := ⟨fun pins s σ H Q I ⟨n, w⟩ => (pe_lockN h n).run pins s σ H Q I w⟩
def lkH (H : Hp) (L : List Addr) (od : Addr → Obj) : Hp := fun b => if b ∈ L then (H b).map (HO.frz (od b)) else H b
def ukH (H H' : Hp) (L : List Addr) : Hp := fun b => if b ∈ L then H b else H' b
theorem lockN_of {t : TE} {σ : L2.St} : ∀ (L : List Addr) {H : Hp} {Q : VK}, L.Nodup → (∀ q ∈ L, ∃ kvs, H q = some (.dT kvs)) → (∀ od : Addr → Obj, t σ (lkH H L od) fun v H' => (∀ q ∈ L, H' q = (H q).map (HO.frz (od q))) ∧ Q v (ukH H H' L)) → tLockN L.length t σ H Q
  | [], H, Q, _, _, h => by
    have h := h fun _ => { cls := .none, data := .fields #[] }
    have e1 : ∀ od, lkH H [] od = H := fun od => by funext b; unfold lkH; rw [if_neg List.not_mem_nil]
    rw [e1] at h
    show t σ H Q
    have e2 : (fun v H' => (∀ q ∈ ([] : List Addr), H' q = (H q).map (HO.frz { cls := .none, data := .fields #[] })) ∧ Q v (ukH H H' [])) = Q := by
      funext v H'
      have : ukH H H' [] = H' := by funext b; unfold ukH; rw [if_neg List.not_mem_nil]
      rw [this]
      exact propext ⟨fun z => z.2, fun z => ⟨fun q hq => absurd hq List.not_mem_nil, z⟩⟩
    rw [← e2]
    exact h
  | d :: L, H, Q, nd, hk, h => by
    obtain ⟨kvs, hd⟩ := hk d List.mem_cons_self
    have nd' := List.nodup_cons.mp nd
    refine ⟨d, .dT kvs, hd, trivial, fun od => ?_⟩
    refine lockN_of L nd'.2 (fun q hq => ?_) fun od' => ?_
    · rw [upd_ne (fun z => nd'.1 (by rw [← z]; exact hq))]
      exact hk q (List.mem_cons_of_mem _ hq)
    · have h := h fun b => if b = d then od else od' b
      have e1 : lkH (upd H d (.frz od (.dT kvs))) L od' = lkH H (d :: L) (fun b => if b = d then od else od' b) := by
        funext b
        unfold lkH
        by_cases hb : b = d
        · subst hb
          rw [if_neg nd'.1, upd_same, if_pos List.mem_cons_self, hd]
          simp only [if_true, Option.map_some]
        · simp only [upd_ne hb, if_neg hb]
          by_cases hl : b ∈ L
          · rw [if_pos hl, if_pos (List.mem_cons_of_mem _ hl)]
          · rw [if_neg hl, if_neg (fun z => (List.mem_cons.mp z).elim hb hl)]
      rw [e1]
      have e2 : (fun v H' => (∀ q ∈ d :: L, H' q = (H q).map (HO.frz (if q = d then od else od' q))) ∧ Q v (ukH H H' (d :: L))) = fun v H' => (∀ q ∈ L, H' q = (upd H d (.frz od (.dT kvs)) q).map (HO.frz (od' q))) ∧ (ukH (upd H d (.frz od (.dT kvs))) H' L d = some (.frz od (.dT kvs)) ∧ Q v (upd (ukH (upd H d (.frz od (.dT kvs))) H' L) d (.dT kvs))) := by
        funext v H'
        have eu : upd (ukH (upd H d (.frz od (.dT kvs))) H' L) d (.dT kvs) = ukH H H' (d :: L) := by
          funext b
          unfold ukH
          by_cases hb : b = d
          · subst hb
            rw [upd_same, if_pos List.mem_cons_self, hd]
          · rw [upd_ne hb, upd_ne hb]
            by_cases hl : b ∈ L
            · rw [if_pos hl, if_pos (List.mem_cons_of_mem _ hl)]
            · rw [if_neg hl, if_neg (fun z => (List.mem_cons.mp z).elim hb hl)]
        have ed : ukH (upd H d (.frz od (.dT kvs))) H' L d = H' d := by unfold ukH; rw [if_neg nd'.1]
        rw [eu, ed]
        refine propext ⟨fun ⟨z1, z2⟩ => ⟨fun q hq => ?_, ?_, z2⟩, fun ⟨z1, z2, z3⟩ => ⟨fun q hq => ?_, z3⟩⟩
        · have hne : q ≠ d := fun z => nd'.1 (by rw [← z]; exact hq)
          have := z1 q (List.mem_cons_of_mem _ hq)
          rw [if_neg hne] at this
          rw [upd_ne hne]
          exact this
        · have := z1 d List.mem_cons_self
          rw [if_pos rfl, hd] at this
          exact this
        · rcases List.mem_cons.mp hq with rfl | hq
          · rw [if_pos rfl, hd]
            exact z2
          · have hne : q ≠ d := fun z => nd'.1 (by rw [← z]; exact hq)
            have := z1 q hq
            rw [upd_ne hne] at this
            rw [if_neg hne]
            exact this
      rw [e2] at h
      exact h
/-- the value that the instance is then: its dicts locked -/
def lokD : D → D
  | .dicT false es => .dicT true es
  | d => d
def lokI : D → D
  | .inst c es => .inst c (es.map fun e => (e.1, lokD e.2))
  | d => d
theorem lokD_id {d : D} (h : ownF d = false) : lokD d = d := by
  cases d with
  | dicT z es =>
    cases z with
    | false => cases h
    | true => rfl
  | _ => rfl
section
variable {K : PySem.W.Frag} {F F' H HL : Hp}
theorem Flds.rpL (ex : Same F F') : ∀ {vs : List V} {ds : List D} {as : List Addr}, Flds K F H vs ds as → (∀ q ∈ as, ∃ od, F' q = (H q).map (HO.frz od)) → RpAll K F' vs (ds.map lokD)
  | _, _, _, .nil, _ => .nil
  | _, _, _, .val o1 r t, k => by
    rw [List.map_cons, lokD_id o1]
    exact .cons (r.mono ex) (t.rpL ex k)
  | _, _, _, .own (q := q) (d := d) o1 f1 h1 r1 t, k => by
    rw [List.map_cons]
    refine .cons ?_ (t.rpL ex fun q h => k q (List.mem_cons_of_mem _ h))
    obtain ⟨od, e⟩ := k q List.mem_cons_self
    rw [h1] at e
    cases r1 with
    | @dicT z ob kvs es m1 m2 =>
      cases z with
      | false => exact .dicT (z := true) (o := od) e m1 (m2.mono ex)
      | true => cases o1
    | _ => cases o1
end
section
variable {K : PySem.W.Frag} {ρ0 ρ ρ1 : Rho} {σ0 σ σ1 : L2.St} {F0 H0 F H F1 H1 : Hp} {i : Nat} {p : Addr} {as : List Addr} {gd : D}
theorem lkH_not {L : List Addr} {od : Addr → Obj} {b : Addr} (h : b ∉ L) : lkH H L od b = H b := if_neg h
theorem lkH_in {L : List Addr} {od : Addr → Obj} {b : Addr} (h : b ∈ L) : lkH H L od b = (H b).map (HO.frz (od b)) := if_pos h
theorem OG.dT (t : OG K ρ0 σ0 F0 H0 i p as gd ρ σ F H) : ∀ q ∈ as, ∃ kvs, H q = some (.dT kvs) := fun q hq => by
  obtain ⟨_, _, _, _, _, _, _, _, _, fl⟩ := t.cm.ex
  exact (fl.has q hq).2
theorem OG.viewL (t : OG K ρ0 σ0 F0 H0 i p as gd ρ σ F H) (r0 : Rel K F0 H0 ρ0 σ0) (od : Addr → Obj) : Rel K (Fs F (lkH H as od) (p :: as)) (lkH H as od) (ρ.set i (.val (lokI gd))) σ := by
  have r := t.go.rel
  have nd := List.nodup_cons.mp t.cm.nd
  have ex : Same F (Fs F (lkH H as od) (p :: as)) := fun a o h => by
    unfold Fs
    rw [if_neg (fun z => by rw [(t.no a z).2.1] at h; cases h)]
    exact h
  have nfs : ∀ q, q ∉ p :: as → F q = none → Fs F (lkH H as od) (p :: as) q = none := fun q hq h => by unfold Fs; rw [if_neg hq]; exact h
  have look : ∀ {m : Nat} {u : Slot}, (ρ.set i (.val (lokI gd)))[m]? = some u → (m = i ∧ u = .val (lokI gd)) ∨ (m ≠ i ∧ (ρ.set i (.adr p))[m]? = some u) := fun {m u} h => by
    rcases get_set h with ⟨e, z⟩ | ⟨e, h⟩
    · exact .inl ⟨e.symm, z⟩
    · exact .inr ⟨fun z => e z.symm, by rw [List.getElem?_set_ne e]; exact h⟩
  have ownB : ∀ q, Own (ρ.set i (.val (lokI gd))) σ q → Own (ρ.set i (.adr p)) σ q := fun q ⟨m, d, h1, h2⟩ => by
    rcases look h1 with ⟨_, e⟩ | ⟨_, h1⟩
    · cases e
    · exact ⟨m, d, h1, h2⟩
  have hl : ∀ {b : Addr} {o : HO}, b ∉ p :: as → H b = some o → lkH H as od b = some o := fun hb h => by rw [lkH_not (fun z => hb (List.mem_cons_of_mem _ z))]; exact h
  have rpV : Rp K (Fs F (lkH H as od) (p :: as)) (.ref p) (lokI gd) := by
    obtain ⟨C, dx, c, fs, es, rfl, e2, e3, e4, e5⟩ := t.cm.ex
    have e6 := e5.rpL ex (fun q hq => ⟨od q, by unfold Fs; rw [if_pos (List.mem_cons_of_mem _ hq), lkH_in hq]⟩)
    refine .inst (dx := dx) (fs := fs) e2 ?_ ?_ ?_
    · unfold Fs; rw [if_pos List.mem_cons_self, lkH_not nd.1]; exact e3
    · rw [List.map_map]; exact e4
    · rw [List.map_map]
      rw [List.map_map] at e6
      exact e6
  refine ⟨fun a o h => ?_, by rw [List.length_set, ← r.len, List.length_set], fun m u o h1 h2 => ?_, fun m k d1 d2 q h1 h2 h3 h4 => ?_, fun m d q h1 h2 h3 => ?_⟩
  · unfold Fs at h
    split at h
    · exact h
    · rename_i hn
      exact hl hn (r.ex a o h)
  · rcases look h1 with ⟨rfl, rfl⟩ | ⟨_, h1⟩
    · rw [t.slot] at h2; cases h2; exact .val rpV
    · have z := r.at' m u o h1 h2
      cases z with
      | emp => exact .emp
      | adr => exact .adr
      | val rp => exact .val (rp.mono ex)
      | @own b o d z1 z2 z3 =>
        have nb : b ∉ p :: as := fun hq => (t.no b hq).2.2 ⟨m, d, h1, h2⟩
        exact .own (nfs b nb z1) (hl nb z2) (z3.mono ex)
      | @rd v d ra =>
        cases ra with
        | val rp nf => exact .rd (.val (rp.mono ex) nf)
        | @own b o d z1 z2 z3 =>
          have nb := t.notRd r0 h1 h2 (.inr trivial) (.own z1 z2 z3) z1
          exact .rd (.own (nfs b nb z1) (hl nb z2) (z3.mono ex))
  · rcases look h1 with ⟨_, e⟩ | ⟨_, h1⟩
    · cases e
    · rcases look h2 with ⟨_, e⟩ | ⟨_, h2⟩
      · cases e
      · exact r.dis m k d1 d2 q h1 h2 h3 h4
  · rcases look h1 with ⟨_, e⟩ | ⟨_, h1⟩
    · cases e
    · exact r.rdis m d q h1 h2 (ownB q h3)
/-- .. and behind it, all unlocked -/
theorem OG.backL (t : OG K ρ0 σ0 F0 H0 i p as gd ρ σ F H) (r0 : Rel K F0 H0 ρ0 σ0) {od : Addr → Obj} (g : Go K (ρ.set i (.val (lokI gd))) σ (Fs F (lkH H as od) (p :: as)) (lkH H as od) ρ1 σ F1 H1) (hc : clnR (ρ1.set i .emp) = true) : (∀ q ∈ as, H1 q = (H q).map (HO.frz (od q))) ∧ OG K ρ0 σ0 F0 H0 i p as gd (ρ1.set i .emp) σ (mrgT F F1) (ukH H H1 as) := by
  have r := t.go.rel
  have r1 := g.rel
  have nd := List.nodup_cons.mp t.cm.nd
  have exS : Same F (Fs F (lkH H as od) (p :: as)) := fun a o h => by
    unfold Fs
    rw [if_neg (fun z => by rw [(t.no a z).2.1] at h; cases h)]
    exact h
  have exF : Same F F1 := exS.trans g.ex
  have hl1 : i < ρ1.length := by rw [r1.len, ← r.len, List.length_set]; exact t.lt
  have eS : (ρ1.set i .emp).set i (.adr p) = ρ1.set i (.adr p) := by rw [List.set_set]
  have fsN : ∀ q, q ∉ p :: as → Fs F (lkH H as od) (p :: as) q = F q := fun q hq => by unfold Fs; rw [if_neg hq]
  have fsP : ∀ q ∈ p :: as, Fs F (lkH H as od) (p :: as) q = lkH H as od q := fun q hq => by unfold Fs; rw [if_pos hq]
  have uN : ∀ q, q ∉ as → ukH H H1 as q = H1 q := fun q hq => by unfold ukH; rw [if_neg hq]
  have uP : ∀ q ∈ as, ukH H H1 as q = H q := fun q hq => by unfold ukH; rw [if_pos hq]
  have hlk : ∀ q ∈ p :: as, ∃ o, F1 q = some o ∧ H1 q = some o ∧ lkH H as od q = some o ∧ NTup o ∧ ∀ xs, o ≠ .lst xs := fun q hq => by
    rcases List.mem_cons.mp hq with rfl | hq'
    · obtain ⟨o, h1, h2, h3⟩ := t.at_ q hq
      have e : lkH H as od q = some o := by rw [lkH_not nd.1]; exact h1
      have e1 : F1 q = some o := g.ex _ _ ((fsP q hq).trans e)
      exact ⟨o, e1, r1.ex _ _ e1, e, h2, h3⟩
    · obtain ⟨kvs, h1⟩ := t.dT q hq'
      have e : lkH H as od q = some (.frz (od q) (.dT kvs)) := by rw [lkH_in hq', h1]; rfl
      have e1 : F1 q = some (.frz (od q) (.dT kvs)) := g.ex _ _ ((fsP q hq).trans e)
      exact ⟨_, e1, r1.ex _ _ e1, e, fun _ z => (nomatch z), fun _ z => (nomatch z)⟩
  have kp : ∀ q ∈ p :: as, ukH H H1 as q = H q ∧ mrgT F F1 q = none := fun q hq => by
    obtain ⟨o, e1, e2, e3, e4, e5⟩ := hlk q hq
    refine ⟨?_, ?_⟩
    · by_cases ha : q ∈ as
      · exact uP q ha
      · rw [uN q ha, e2, ← e3, lkH_not ha]
    · unfold mrgT
      rw [(t.no q hq).2.1]
      exact tlF_not e1 e4 e5
  have look : ∀ {m : Nat} {u : Slot}, (ρ1.set i (.adr p))[m]? = some u → (m = i ∧ u = .adr p) ∨ (m ≠ i ∧ ρ1[m]? = some u ∧ clnS u = true) := fun {m u} h => by
    rcases get_set h with ⟨e, z⟩ | ⟨e, h⟩
    · exact .inl ⟨e.symm, z⟩
    · refine .inr ⟨fun z => e z.symm, h, ?_⟩
      have h2 : (ρ1.set i .emp)[m]? = some u := by rw [List.getElem?_set_ne e]; exact h
      exact List.all_eq_true.mp hc u (List.mem_of_getElem? h2)
  have ownB : ∀ q, Own (ρ1.set i (.adr p)) σ q → Own ρ1 σ q := fun q ⟨m, d, h1, h2⟩ => by
    rcases look h1 with ⟨_, e⟩ | ⟨_, h1, _⟩
    · cases e
    · exact ⟨m, d, h1, h2⟩
  have ownC : ∀ q, Own (ρ.set i (.val (lokI gd))) σ q → Own (ρ.set i (.adr p)) σ q := fun q ⟨m, d, h1, h2⟩ => by
    rcases get_set h1 with ⟨_, e⟩ | ⟨e, h1⟩
    · cases e
    · exact ⟨m, d, by rw [List.getElem?_set_ne e]; exact h1, h2⟩
  have hN : ∀ {q : Addr} {o : HO}, q ∉ p :: as → H1 q = some o → ukH H H1 as q = some o := fun hq h => by rw [uN _ (fun z => hq (List.mem_cons_of_mem _ z))]; exact h
  have st : Go K (ρ.set i (.adr p)) σ F H (ρ1.set i (.adr p)) σ (mrgT F F1) (ukH H H1 as) := by
    refine ⟨⟨fun a o h => ?_, by rw [List.length_set]; exact r1.len, fun m u o h1 h2 => ?_, fun m k d1 d2 q h1 h2 h3 h4 => ?_, fun m d q h1 h2 h3 => ?_⟩, mrgT_same F F1, fun a o h1 h2 h3 => ?_, fun q h => ?_, rfl, fun d h => ?_, fun m d h => ?_⟩
    · have na : a ∉ p :: as := fun z => by rw [(kp a z).2] at h; cases h
      refine hN na ?_
      unfold mrgT at h
      split at h
      · rename_i e; cases h; exact r1.ex _ _ (exF _ _ e)
      · exact r1.ex _ _ (tlF_same F1 a o h)
    · rcases look h1 with ⟨rfl, rfl⟩ | ⟨hm, h1, hu⟩
      · rw [t.slot] at h2; cases h2; exact .adr
      · have z := r1.at' m u o h1 h2
        cases z with
        | emp => exact .emp
        | adr => exact .adr
        | val rp => exact .val ((rp_tlF rp hu).mono (mrgT_tl exF))
        | @own b o d z1 z2 z3 =>
          have nb : b ∉ p :: as := fun hq => by
            obtain ⟨_, e1, _⟩ := hlk b hq
            rw [e1] at z1
            cases z1
          refine .own (mrgT_none ?_ z1) (hN nb z2) ((ro_tlF z3 hu).mono (mrgT_tl exF))
          cases e : F b with
          | none => rfl
          | some o' => rw [exF _ _ e] at z1; cases z1
        | @rd v d ra =>
          obtain ⟨k1, k2⟩ := g.rdb m d h1
          have k3 : (ρ.set i (.adr p))[m]? = some (.rd d) := by
            rcases get_set k1 with ⟨_, e⟩ | ⟨e, k1⟩
            · cases e
            · rw [List.getElem?_set_ne e]; exact k1
          have w := r.at' m _ _ k3 h2
          cases w with
          | rd w =>
            cases w with
            | val rp nf => exact .rd (.val (rp.mono (mrgT_same F F1)) nf)
            | @own b o d z1 z2 z3 =>
              have nb := t.notRd r0 k3 h2 (.inr trivial) (.own z1 z2 z3) z1
              have nOw : ¬ Own (ρ.set i (.val (lokI gd))) σ b := fun w => r.rdis m d b k3 h2 (ownC b w)
              obtain ⟨y1, y2⟩ := g.keep b o (by rw [lkH_not (fun z => nb (List.mem_cons_of_mem _ z))]; exact z2) ((fsN b nb).trans z1) nOw
              exact .rd (.own (mrgT_none z1 (y2 z3.nt)) (hN nb y1) (z3.mono (mrgT_same F F1)))
    · rcases look h1 with ⟨_, e⟩ | ⟨_, h1, _⟩
      · cases e
      · rcases look h2 with ⟨_, e⟩ | ⟨_, h2, _⟩
        · cases e
        · exact r1.dis m k d1 d2 q h1 h2 h3 h4
    · rcases look h1 with ⟨_, e⟩ | ⟨_, h1, _⟩
      · cases e
      · exact r1.rdis m d q h1 h2 (ownB q h3)
    · by_cases ha : a ∈ p :: as
      · exact ⟨(kp a ha).1.trans h1, fun _ => (kp a ha).2⟩
      · obtain ⟨y1, y2⟩ := g.keep a o (by rw [lkH_not (fun z => ha (List.mem_cons_of_mem _ z))]; exact h1) ((fsN a ha).trans h2) fun w => h3 (ownC a w)
        exact ⟨hN ha y1, fun n => mrgT_none h2 (y2 n)⟩
    · rcases g.own q (ownB q h) with w | w
      · exact .inl (ownC q w)
      · refine .inr ?_
        by_cases ha : q ∈ as
        · obtain ⟨kvs, e⟩ := t.dT q ha
          rw [lkH_in ha, e] at w
          cases w
        · rwa [lkH_not ha] at w
    · by_cases h0 : i = 0
      · subst h0
        have : 0 < ρ.length := t.lt
        rw [List.getElem?_set_self this] at h
        cases h
      · rw [List.getElem?_set_ne h0] at h ⊢
        exact g.lowO d (by rw [List.getElem?_set_ne h0]; exact h)
    · rcases look h with ⟨_, e⟩ | ⟨hm, h, _⟩
      · cases e
      · obtain ⟨k1, k2⟩ := g.rdb m d h
        refine ⟨?_, k2⟩
        rcases get_set k1 with ⟨_, e⟩ | ⟨e, k1⟩
        · cases e
        · rw [List.getElem?_set_ne e]; exact k1
  have he : (ρ1.set i .emp)[i]? = some .emp := List.getElem?_set_self hl1
  refine ⟨fun q hq => ?_, t.step r0 he (by rw [eS]; exact st)⟩
  obtain ⟨o, _, e2, e3, _⟩ := hlk q (List.mem_cons_of_mem _ hq)
  rw [e2, ← e3, lkH_in hq]
theorem view_L {E : EW} (t : OG K ρ0 σ0 F0 H0 i p as gd ρ σ F H) (r0 : Rel K F0 H0 ρ0 σ0) {te : XV} {d : D} (e : te (ρ.set i (.val (lokI gd))) = .ok d ρ1) (hc : clnR (ρ1.set i .emp) = true) (hd : cln d = true) {Q : VK} (k : ∀ F2 H2 v, Same F F2 → OG K ρ0 σ0 F0 H0 i p as gd (ρ1.set i .emp) σ F2 H2 → Rp K F2 v d → Q v H2) : tLks (lE K E te) σ H Q := by
  refine ⟨as.length, lockN_of as (List.nodup_cons.mp t.cm.nd).2 t.dT fun od => ⟨_, _, t.viewL r0 od, ?_⟩⟩
  unfold Pend
  simp only [e]
  intro F1 H1 g v rp
  obtain ⟨z1, z2⟩ := t.backL r0 g hc
  exact ⟨z1, k _ _ v (mrgT_same F F1) z2 ((rp_tlF rp hd).mono (mrgT_tl (Same.trans (fun a o h => by unfold Fs; rw [if_neg (fun z => by rw [(t.no a z).2.1] at h; cases h)]; exact h) g.ex)))⟩
end
def rItLk (i : Nat) (te : XV) : D → XA := fun gd ρ => match te (ρ.set i (.val (lokI gd))) with
  | .ok (.lst ds) ρ1 => if clnR (ρ1.set i .emp) = true ∧ clns ds = true then .ok ds (ρ1.set i .emp) else .bad
  | _ => .bad
section
variable {X : Cx} {E : EW} {i : Nat} {T1 T2 : TS} {t1 t2 : RS}
theorem ri_listK {te : XV} : RI X i (iList X.K (tLks (lE X.K E te))) (rItLk i te) := by
  refine ⟨fun {ρ0 σ0 F0 H0 p as gd ρ σ F H ds ρ1} r0 t h R N => ?_⟩
  unfold rItLk at h
  split at h
  · rename_i ds' ρ1' e
    split at h
    · rename_i hc
      cases h
      refine view_L t r0 e hc.1 hc.2 fun F2 H2 v s t2 rp => ?_
      cases rp with
      | @lst a xs _ fa ra =>
        refine ⟨a, rfl, ⟨xs, SqL.of (t2.go.rel.ex _ _ fa)⟩, N _ F2 H2 s t2 fun {ρ' σ' F' H' as' gd'} s' t' => ?_⟩
        have hq : SqL X.K H' a xs := SqL.of (t'.go.rel.ex _ _ (s' _ _ fa))
        refine ⟨fun k d hd => ?_, fun k hk => ⟨xs, hq, by rw [ra.length]; exact hk⟩⟩
        obtain ⟨y, hy, ry⟩ := ra.get hd
        refine ⟨⟨xs, y, hq, hy⟩, fun x H3 yy => ?_⟩
        obtain ⟨rfl, yy⟩ := yy
        have := yy xs hq
        rw [hy] at this
        cases this
        exact ⟨F', Gr.refl t'.go.rel.ex, ry.mono s'⟩
    · cases h
  · cases h
end
end G


set_option maxHeartbeats 4000000
namespace G
open PySem PySem.Spec PyProof.Rows L2

def rSortDT (K : PySem.W.Frag) : List V → Hp → VK → Prop := fun vs H Q => ∃ (d : Addr) (kvs : List (List Key × V)) (ks : List (List Int)), vs = [V.ref d] ∧ Rd H d (.dT kvs) ∧ kvs.map (·.1) = ks.map (fun k => k.map Sum.inl) ∧ (∀ k ∈ ks, k ≠ []) ∧ ks.length ≤ manyS ∧
  ∀ (p : Addr) (L : List (Addr × List Int)), H p = none → L.map (·.2) = ks → IsKeys H kvs (L.map (·.1)) → Q (.ref p) (upd H p (.lst ((L.mergeSort (PySem.W.dataLe false tupD)).map fun q => V.ref q.1)))
theorem keys_tup {H : Hp} {kvs : List (List Key × V)} {L : List (Addr × List Int)} (h : IsKeys H kvs (L.map (·.1))) (e : kvs.map (·.1) = L.map fun q => q.2.map Sum.inl) : ∀ q ∈ L, H q.1 = some (.tup (q.2.map V.int)) := by
  induction L generalizing kvs with
  | nil => exact fun q hq => absurd hq List.not_mem_nil
  | cons a L ih =>
    cases kvs with
    | nil => cases e
    | cons kv kvs =>
      rw [List.map_cons] at h
      cases h with
      | cons h1 h2 =>
        rw [List.map_cons, List.map_cons] at e
        injection e with e1 e2
        intro q hq
        rcases List.mem_cons.mp hq with rfl | hq
        · rw [h1, e1, List.map_map]
          rfl
        · exact ih h2 e2 q hq
theorem cr_sortedDT {X : Cx} (hc : X.calm = true) (hu : X.A.units + 200 < cLine) : CallR X (.builtin "sorted") (rSortDT X.K) := by
  intro pins s σ H vs us Q I r h
  obtain ⟨d, kvs, kl, rfl, hd, hkl, hne, hfew, q⟩ := h
  rw [Vals.ref1 r]
  obtain ⟨z, hs, ks, pr, o, es, ep, ho, hx, hdt, he, hn⟩ := (show ObjOk X.prog X.w H s.heap d (.dT kvs) from hd.ok I.hok)
  have l1 : es.size = ks.length := by
    have := congrArg List.length he
    rw [List.length_map] at this
    simpa using this
  have l2 : kvs.length = ks.length := Paired.length pr
  have l3 : kvs.length = kl.length := by
    have := congrArg List.length hkl
    rwa [List.length_map, List.length_map] at this
  -- the keys with their places
  have hL2 : ((ks.map fun x => x.2.1).zip kl).map (·.2) = kl := zip_snd (by rw [List.length_map]; omega)
  have hL1 : ((ks.map fun x => x.2.1).zip kl).map (·.1) = ks.map fun x => x.2.1 := zip_fst (by rw [List.length_map]; omega)
  generalize (ks.map fun x => x.2.1).zip kl = L at hL1 hL2
  have hIK : IsKeys H kvs (L.map (·.1)) := by rw [hL1]; exact isKeys_of pr
  have hek : kvs.map (·.1) = L.map fun q => q.2.map Sum.inl := by rw [hkl, ← hL2, List.map_map]; rfl
  have tps := keys_tup hIK hek
  have hLl : L.length = kl.length := by rw [← hL2, List.length_map]
  refine Calls.call_function_entry PyProof.Rows.kind_sorted PyProof.Rows.plain_sorted PyProof.Rows.entry_sorted (PyProof.Rows.args_sorted1 _) ?_
  unfold Builtin.«sorted»
  refine wpAny_bind (m := checkCount "sorted" 1 1 _) (wpAny_pure ?_)
  refine wpAny_bind (PySem.W.kdu_collect (A := X.A.in1) (kdl_raw hs hx hdt) (I.ok.hd hc) ho (by omega) fun h' tk acc kp it => ?_)
  have ea : acc.toList = L.map fun q => Value.ref q.1 := by
    have e0 : acc.toList = ks.map fun x => Value.ref x.2.1 := by
      have hl : acc.toList.length = ks.length := by rw [Array.length_toList, it.1]; exact l1
      apply List.ext_getElem?
      intro j
      rw [List.getElem?_map]
      cases hj : acc.toList[j]? with
      | none =>
        have h1 := List.getElem?_eq_none_iff.mp hj
        rw [List.getElem?_eq_none (by omega)]
        rfl
      | some v =>
        obtain ⟨en, hen, hv⟩ := it.2 j v (by rw [← Array.getElem?_toList]; exact hj)
        have qe := entry_at he j
        rw [hen] at qe
        cases hb : ks[j]? with
        | none =>
          rw [hb] at qe
          exact nomatch (show some en = none from qe)
        | some b =>
          rw [hb] at qe
          have e2 : en = entryOfKey (tupleKind (mixKind X.prog X.w)) b := Option.some.inj qe
          rw [hv, e2]
          rfl
    rw [e0, show (ks.map fun x => Value.ref x.2.1) = (ks.map fun x => x.2.1).map Value.ref by rw [List.map_map]; rfl, ← hL1, List.map_map]
    rfl
  have hvl : acc.toList.length ≤ sizeLine := by rw [ea, List.length_map, hLl, sizeLine_eq]; unfold manyS at hfew; omega
  refine wpAny_bind (wpAny_newList ?_ hvl)
  rw [ea]
  have hoL : (h'.push (seqObj "list" (L.map fun q => Value.ref q.1).toArray 0)).get? h'.objs.size = some (seqObj "list" (L.map fun q => Value.ref q.1).toArray 0) := Heap.get?_push_size _ rfl
  have I1 : Inv X pins σ H { s with heap := h', toks := tk } := I.kept kp
  have tkk : ∀ q ∈ L, TS.TupInts (h'.push (seqObj "list" (L.map fun q => Value.ref q.1).toArray 0)) (.ref q.1) q.2 := fun q hq => L2.tupInts_of (P := X.prog) (w := X.w) (isT_keep (I1.isT (SqT.of (K := X.K) (tps q hq))) fun b u e => Heap.get?_push_of_some _ e)
  refine wpAny_bind (wpAny_holding (PySem.W.list_sort_data (s := { s with heap := h'.push (seqObj "list" (L.map fun q => Value.ref q.1).toArray 0), toks := tk }) (bs := L) (enc := tupD) (R := fun (v : Value) (q : Addr × List Int) => v = .ref q.1) hoL (each_refs L) (each_readsT tkk) alike_tups ?_ (by rw [ea, List.length_map] at hvl; exact hvl) (fun q hq => ?_) fun out hlen hout => ?_))
  · refine .inl fun d hd => ?_
    obtain ⟨q, hq, rfl⟩ := List.mem_map.mp hd
    cases e : q.2 with
    | nil => exact absurd e (hne q.2 (by rw [← hL2]; exact List.mem_map_of_mem hq))
    | cons x r => exact ⟨.int x, r.map PyData.int, by unfold tupD; rw [e]; rfl⟩
  · have := depth_ints q.2
    have h1 : X.A.in1.units = X.A.units + 1 := rfl
    show X.A.in1.units + 1 + (PyData.depthAll (q.2.map PyData.int) + 1) < cLine
    omega
  · have eo := refs_each hout
    subst eo
    obtain ⟨c, hcc⟩ := PyProof.Rows.sortedHeap_at (vs := L.map fun q => Value.ref q.1) (out := ((L.mergeSort (PySem.W.dataLe false tupD)).map fun q => Value.ref q.1).toArray) hoL
    have hn : H h'.objs.size = none := I1.hok.fresh (Nat.le_refl _)
    have hv : Vals ((L.mergeSort (PySem.W.dataLe false tupD)).map fun q => V.ref q.1) ((L.mergeSort (PySem.W.dataLe false tupD)).map fun q => Value.ref q.1) := vals_of_refs _
    have hlen2 : ((L.mergeSort (PySem.W.dataLe false tupD)).map fun q => V.ref q.1).length ≤ sizeLine := by rw [List.length_map, (List.mergeSort_perm _ _).length_eq, hLl, sizeLine_eq]; unfold manyS at hfew; omega
    refine wpAny_pure ⟨_, rfl, .ref h'.objs.size, _, I1.laid (t' := tk) (o := .lst ((L.mergeSort (PySem.W.dataLe false tupD)).map fun q => V.ref q.1)) (fun b u e => ?_) (Nat.le_refl _) ⟨hlen2, _, c, hv, hcc⟩, rfl, q _ L hn hL2 hIK⟩
    have hlt := Heap.lt_size e
    show (PyProof.Rows.sortedHeap (h'.push (seqObj "list" (L.map fun q => Value.ref q.1).toArray 0)) h'.objs.size (L.map fun q => Value.ref q.1) _).get? b = some u
    rw [PyProof.Rows.sortedHeap_old (Nat.ne_of_lt hlt) (by rw [size_push']; exact Nat.lt_succ_of_lt hlt)]
    exact Heap.get?_push_of_some _ e

/-- sorted(d) -/
def dSortDK : D → Option D
  | .dicT _ es => (keysOf (es.map fun e => .tup (e.1.map dKey))).bind fun ks => if ks.length ≤ manyS ∧ (ks.all fun k => !k.isEmpty) = true then some (.lst ((isortB leK ks).map tupK)) else none
  | _ => none
theorem dKey_int {k : Key} {i : Int} (h : dKey k = .int i) : k = .inl i := by
  cases k with
  | inl j => cases h; rfl
  | inr x => cases h
theorem keysOf_inl : ∀ {es : List (List Key × D)} {ks : List (List Int)}, keysOf (es.map fun e => .tup (e.1.map dKey)) = some ks → es.map (·.1) = ks.map fun k => k.map Sum.inl := by
  intro es
  have one : ∀ {l : List Key} {ns : List Int}, l.map dKey = ns.map D.int → l = ns.map Sum.inl := by
    intro l
    induction l with
    | nil => intro ns h; cases ns with | nil => rfl | cons _ _ => cases h
    | cons a l ih =>
      intro ns h
      cases ns with
      | nil => cases h
      | cons n ns =>
        rw [List.map_cons, List.map_cons] at h
        injection h with h1 h2
        rw [List.map_cons, dKey_int h1, ih h2]
  induction es with
  | nil => intro ks h; cases h; rfl
  | cons e es ih =>
    intro ks h
    rw [List.map_cons] at h
    unfold keysOf keyOf at h
    simp only at h
    cases h1 : tupInts (e.1.map dKey) with
    | none => rw [h1] at h; cases h
    | some ns =>
      rw [h1] at h
      simp only [Option.bind_some] at h
      cases h2 : keysOf (es.map fun e => .tup (e.1.map dKey)) with
      | none => rw [h2] at h; cases h
      | some kk =>
        rw [h2] at h
        cases h
        rw [List.map_cons, List.map_cons, ih h2, one (tupInts_of h1)]
section
variable {K : PySem.W.Frag}
theorem sort_of {F H : Hp} {v : V} {x d : D} {Q : VK} {σ : L2.St} {ρ0 ρ : Rho} {F0 H0 : Hp} (r0 : Rel K F0 H0 ρ0 σ) (g0 : Go K ρ0 σ F0 H0 ρ σ F H) (ra : Ra K F H v x) (e : dSortDK x = some d)
    (q : ∀ F' H', Go K ρ σ F H ρ σ F' H' → ∀ p o, F' p = none → H' p = some o → Ro K F' p o d → ¬ Own ρ σ p → (Own ρ0 σ p ∨ H0 p = none) → Q (.ref p) H') : rSortDT K [v] H Q := by
  have ex := g0.rel.ex
  have hd : isDic x = true := by
    unfold dSortDK at e
    split at e
    · rfl
    · cases e
  obtain ⟨a, rfl, _, hh⟩ := dic_ra ex ra hd
  have o := outN_of r0 g0 q
  unfold dSortDK at e
  split at e
  · rename_i z es
    rcases hh with ⟨z', kvs, es', exx, hr, he⟩ | ⟨z', kvs, es', exx, hr, he⟩
    rotate_left
    · cases exx
    cases exx
    cases hk : keysOf (es.map fun e => .tup (e.1.map dKey)) with
    | none => rw [hk] at e; cases e
    | some ks =>
      rw [hk] at e
      simp only [Option.bind_some] at e
      split at e
      rotate_left
      · cases e
      rename_i hz
      cases e
      refine ⟨a, kvs, ks, rfl, hr, he.keys.trans (keysOf_inl hk), fun k hk2 e => ?_, hz.1, fun p L hp hL ik => ?_⟩
      · have := List.all_eq_true.mp hz.2 k hk2
        rw [e] at this
        cases this
      · obtain ⟨F', f1, f2, f3, f4⟩ := keys_known (K := K) ex he.keys ik
        have f2' : Same F' (upd H p (.lst ((L.mergeSort (PySem.W.dataLe false tupD)).map fun q => V.ref q.1))) := fun c u h => by rw [upd_ne (ne_of_none (f2 c u h) hp)]; exact f2 c u h
        refine o p _ F' _ ⟨f1, fun c u h => by rw [upd_ne (ne_of_none h hp)]; exact h, f2', f3⟩ hp (f2.free hp) upd_same (.lst ?_)
        have hF : ∀ q ∈ L, F' q.1 = some (.tup (q.2.map V.int)) := by
          have e2 : kvs.map (·.1) = L.map fun q => q.2.map Sum.inl := by rw [he.keys, keysOf_inl hk, ← hL, List.map_map]; rfl
          intro q hq
          obtain ⟨M, e3, e4, e5⟩ := rows_of f4 hk
          have e6 : L.map (fun p => V.ref p.1) = M.map fun p => V.ref p.1 := by rw [← e3, List.map_map]; rfl
          have e7 : L = M := by
            have i1 : L.map (·.1) = M.map (·.1) := by
              have inj : ∀ {l m : List Addr}, l.map V.ref = m.map V.ref → l = m := by
                intro l
                induction l with
                | nil => intro m h; cases m with | nil => rfl | cons _ _ => cases h
                | cons a l ih =>
                  intro m h
                  cases m with
                  | nil => cases h
                  | cons b m =>
                    rw [List.map_cons, List.map_cons] at h
                    injection h with h1 h2
                    injection h1 with h1
                    rw [h1, ih h2]
              refine inj ?_
              rw [List.map_map, List.map_map]
              exact e6
            have i2 : L.map (·.2) = M.map (·.2) := hL.trans e4.symm
            have both : ∀ {l m : List (Addr × List Int)}, l.map (·.1) = m.map (·.1) → l.map (·.2) = m.map (·.2) → l = m := by
              intro l
              induction l with
              | nil => intro m h _; cases m with | nil => rfl | cons _ _ => cases h
              | cons a l ih =>
                intro m h1 h2
                cases m with
                | nil => cases h1
                | cons b m =>
                  rw [List.map_cons, List.map_cons] at h1 h2
                  injection h1 with x1 x2
                  injection h2 with y1 y2
                  rw [ih x2 y2, Prod.ext x1 y1]
            exact both i1 i2
          rw [e7] at hq
          exact e5 q hq
        rw [← hL, ← sort_rows]
        exact rows_back fun q hq => hF q ((List.mergeSort_perm _ _).mem_iff.mp hq)
  · cases e
end
section
variable {X : Cx} {E : EW} {pos : Pos}
def srtk : D → Rho → Res D := fun y ρ => lift dSortDK y ρ
/-- of the dict that slot i holds -/
def xSortDO (i : Nat) : XV := withD i srtk
theorem xn_sortDO {i : Nat} {x : Str} {p xp : Pos} (hc : X.calm = true) (hu : X.A.units + 200 < cLine) (hg : Gl X "sorted") (hm : X.mg "sorted" = none) (ho : PE X (.Name x xp) (tVar i))
    (s1 : starEach [.Name x xp] X.env = (false, eval (.Name x xp) X.env) :: starEach [] X.env := by rfl) (b2 : (backTo pos (starEach [] X.env)).any (·.1) = false := by rfl) :
    PE X (.Call (.Name "sorted" p) [.Name x xp] [] pos) (lN X.K E (xSortDO i)) := pe_imp (pe_callB (cr_sortedDT hc hu) hg hm bt_sorted (pa_cons ho pa_nil s1) (he := s1) (hpl := b2)) fun σ H Q h => by
  obtain ⟨F, ρ, r, p⟩ := h
  obtain ⟨y, e0, hd, p⟩ := Pend.withD p
  obtain ⟨v, s0, ra⟩ := r.rd e0
  obtain ⟨d, ed, q⟩ := Pend.lift (f := dSortDK) (x := y) p
  exact ⟨v, s0, sort_of r (Go.refl r) ra ed q⟩
/-- of a dict that is a value -/
def xSortDV (te : XV) : XV := fun ρ => (te ρ).bind (lift dSortDK)
theorem xn_sortDV {e : Expr} {te : XV} {p : Pos} (hc : X.calm = true) (hu : X.A.units + 200 < cLine) (hg : Gl X "sorted") (hm : X.mg "sorted" = none) (ho : PE X e (lE X.K E te))
    (s1 : starEach [e] X.env = (false, eval e X.env) :: starEach [] X.env := by rfl) (b2 : (backTo pos (starEach [] X.env)).any (·.1) = false := by rfl) :
    PE X (.Call (.Name "sorted" p) [e] [] pos) (lN X.K E (xSortDV te)) := pe_imp (pe_callB (cr_sortedDT hc hu) hg hm bt_sorted (pa_cons ho pa_nil s1) (he := s1) (hpl := b2)) fun σ H Q h => by
  obtain ⟨F, ρ, r, p⟩ := h
  refine ⟨F, ρ, r, (Pend.bind r p).mono fun y ρ1 F1 H1 g1 q v rv => ?_⟩
  obtain ⟨d, ed, q⟩ := q.lift
  have hd : isDic y = true := by
    unfold dSortDK at ed
    split at ed
    · rfl
    · cases ed
  exact sort_of r g1 (ra_of_rp (H := H1) rv hd) ed q
end
section
variable (ρ : Rho) (i : Nat) (te : XV)
theorem zlw : xSortDO i ρ = withD i srtk ρ := rfl
theorem zlx (y : D) : srtk y ρ = liftO (dSortDK y) ρ := rfl
theorem zly : xSortDV te ρ = (te ρ).bind (lift dSortDK) := rfl
theorem zlz {α : Type} (f : α → D) (z : Bool) (T : List ((Int × Int) × α)) (h : T.length ≤ manyS) : dSortDK (.dicT z (encE f T)) = some (cells (sortE (T.map (·.1)))) := by
  have e : (encE f T).map (fun e => D.tup (e.1.map dKey)) = (T.map (·.1)).map cellP := by
    unfold encE
    rw [List.map_map, List.map_map]
    rfl
  unfold dSortDK
  simp only [e, keysOf_cells, Option.bind_some]
  rw [if_pos ⟨by rw [List.length_map, List.length_map]; exact h, by simp [k2]⟩, isortB_map (le2 := leE) k2 leK_k2, List.map_map]
  rfl
end
end G


set_option maxHeartbeats 4000000
namespace G
open PySem PySem.Spec PyProof.Rows L2

theorem Go.mutS {K : PySem.W.Frag} {ρ0 ρ : Rho} {σ0 σ : L2.St} {F0 H0 F H F' H' : Hp} {S : List Addr} (r0 : Rel K F0 H0 ρ0 σ0) (g : Go K ρ0 σ0 F0 H0 ρ σ F H) (hS : ∀ q ∈ S, H0 q = none ∧ F q = none ∧ ¬ Own ρ σ q) (kc : KeepC F H F' H' S) : Go K ρ0 σ0 F0 H0 ρ σ F' H' := by
  have r := g.rel
  have nrd : ∀ {j : Nat} {d : D} {q : Addr}, ρ[j]? = some (.rd d) → σ[j]? = some (some (.ref q)) → F q = none → q ∉ S := fun {j d q} h1 h2 hf hq => by
    obtain ⟨k1, k2⟩ := g.rdb j d h1
    rw [h2] at k2
    have z := r0.at' j _ _ k1 k2.symm
    cases z with
    | rd z =>
      cases z with
      | val rp nf => exact rp_at (rp.mono g.ex) nf hf
      | own _ e _ => rw [(hS q hq).1] at e; cases e
  have kp : ∀ {b : Addr} {o : HO}, b ∉ S → H b = some o → NTup o → F b = none → H' b = some o ∧ F' b = none := fun hb h n f => ⟨(kc.keep _ _ hb h).1, (kc.keep _ _ hb h).2 n f⟩
  refine ⟨⟨kc.sub, r.len, fun m u o h1 h2 => ?_, r.dis, r.rdis⟩, g.ex.trans kc.ex, fun a o h1 h2 h3 => ?_, g.own, g.low, g.lowO, g.rdb⟩
  · have z := r.at' m u o h1 h2
    cases z with
    | emp => exact .emp
    | adr => exact .adr
    | val rp => exact .val (rp.mono kc.ex)
    | @own b o d z1 z2 z3 =>
      obtain ⟨k1, k2⟩ := kp (fun hq => (hS b hq).2.2 ⟨m, d, h1, h2⟩) z2 z3.nt z1
      exact .own k2 k1 (z3.mono kc.ex)
    | @rd v d ra =>
      cases ra with
      | val rp nf => exact .rd (.val (rp.mono kc.ex) nf)
      | @own b o d z1 z2 z3 =>
        obtain ⟨k1, k2⟩ := kp (nrd h1 h2 z1) z2 z3.nt z1
        exact .rd (.own k2 k1 (z3.mono kc.ex))
  · have na : a ∉ S := fun z => by rw [(hS a z).1] at h1; cases h1
    obtain ⟨k1, k2⟩ := g.keep a o h1 h2 h3
    obtain ⟨k3, k4⟩ := kc.keep a o na k1
    exact ⟨k3, fun n => k4 n (k2 n)⟩
abbrev GT3 := List (Int × Addr × List D)
def dgH (T : GT3) : HO := .dK (T.map fun t => (.inl t.1, .ref t.2.1))
def plS (p : Addr) (T : GT3) : List Addr := p :: T.map (·.2.1)
structure DG (K : PySem.W.Frag) (ρ0 : Rho) (σ0 : L2.St) (F0 H0 : Hp) (i : Nat) (p : Addr) (T : GT3) (ρ : Rho) (σ : L2.St) (F H : Hp) : Prop where
  go : Go K ρ0 σ0 F0 H0 (ρ.set i (.adr p)) σ F H
  he : ρ[i]? = some .emp
  hp : H p = some (dgH T)
  ch : ∀ t ∈ T, ∃ xs, H t.2.1 = some (.lst xs) ∧ RpAll K F xs t.2.2
  no : ∀ q ∈ plS p T, H0 q = none ∧ F q = none ∧ ¬ Own (ρ.set i (.adr p)) σ q
  nd : (plS p T).Nodup
  kd : (T.map (·.1)).Nodup
section
variable {K : PySem.W.Frag} {ρ0 ρ ρ1 : Rho} {σ0 σ σ1 : L2.St} {F0 H0 F H F1 H1 : Hp} {i : Nat} {p : Addr} {T : GT3}
theorem DG.has (t : DG K ρ0 σ0 F0 H0 i p T ρ σ F H) : ∀ q ∈ plS p T, ∃ o, H q = some o ∧ NTup o := fun q hq => by
  rcases List.mem_cons.mp hq with rfl | hq
  · exact ⟨_, t.hp, fun _ z => nomatch z⟩
  · obtain ⟨x, hx, rfl⟩ := List.mem_map.mp hq
    obtain ⟨xs, h, _⟩ := t.ch x hx
    exact ⟨_, h, fun _ z => nomatch z⟩
theorem DG.lt (t : DG K ρ0 σ0 F0 H0 i p T ρ σ F H) : i < ρ.length := (List.getElem?_eq_some_iff.mp t.he).1
theorem DG.slot (t : DG K ρ0 σ0 F0 H0 i p T ρ σ F H) : σ[i]? = some (some (.ref p)) := by
  have hl := t.go.rel.len
  rw [List.length_set] at hl
  have hl2 : i < σ.length := by have := t.lt; omega
  have hs := List.getElem?_eq_getElem hl2
  have z := t.go.rel.at' i (.adr p) _ (List.getElem?_set_self t.lt) hs
  rw [hs]
  generalize σ[i] = o at z ⊢
  cases z
  rfl
theorem DG.step (t : DG K ρ0 σ0 F0 H0 i p T ρ σ F H) (r0 : Rel K F0 H0 ρ0 σ0) (he : ρ1[i]? = some .emp) (g : Go K (ρ.set i (.adr p)) σ F H (ρ1.set i (.adr p)) σ1 F1 H1) : DG K ρ0 σ0 F0 H0 i p T ρ1 σ1 F1 H1 := by
  have r := t.go.rel
  have kp : ∀ q ∈ plS p T, F1 q = none ∧ H1 q = H q ∧ ¬ Own (ρ1.set i (.adr p)) σ1 q := fun q hq => by
    obtain ⟨n1, n2, n3⟩ := t.no q hq
    obtain ⟨o, h1, h2⟩ := t.has q hq
    obtain ⟨k1, k2⟩ := g.keep q o h1 n2 n3
    exact ⟨k2 h2, k1.trans h1.symm, own_back2 r g h1 n3⟩
  refine ⟨t.go.trans r0 g, he, (kp p List.mem_cons_self).2.1.trans t.hp, fun x hx => ?_, fun q hq => ⟨(t.no q hq).1, (kp q hq).1, (kp q hq).2.2⟩, t.nd, t.kd⟩
  obtain ⟨xs, h, rr⟩ := t.ch x hx
  exact ⟨xs, (kp _ (List.mem_cons_of_mem _ (List.mem_map_of_mem hx))).2.1.trans h, rr.mono g.ex⟩
/-- an ordinary expression -/
theorem DG.expr (t : DG K ρ0 σ0 F0 H0 i p T ρ σ F H) (r0 : Rel K F0 H0 ρ0 σ0) (he : ρ1[i]? = some .emp) (g : Go K ρ σ F H ρ1 σ F1 H1) : DG K ρ0 σ0 F0 H0 i p T ρ1 σ F1 H1 := by
  have e : ρ.set i .emp = ρ := by
    obtain ⟨hi, q⟩ := List.getElem?_eq_some_iff.mp t.he
    rw [← q]
    exact List.set_getElem_self hi
  have g1 := go_slot (s := .adr p) (s' := .emp) t.go.rel t.slot .emp (fun _ z => by cases z) (fun _ z => by cases z) (fun _ z => by cases z)
  rw [e] at g1
  have e1 : ρ1.set i .emp = ρ1 := by
    obtain ⟨hi, q⟩ := List.getElem?_eq_some_iff.mp he
    rw [← q]
    exact List.set_getElem_self hi
  have g2 := go_slot (i := i) (ρ := ρ1) (s := .emp) (s' := .adr p) (by rw [e1]; exact g.rel) t.slot .adr (fun _ z => by cases z) (fun _ z => by cases z) (fun _ z => by cases z)
  rw [e1] at g2
  exact t.step r0 he ((g1.trans t.go.rel g).trans t.go.rel g2)
theorem DG.view (t : DG K ρ0 σ0 F0 H0 i p T ρ σ F H) : Rel K F H ρ σ := by
  have e : ρ.set i .emp = ρ := by
    obtain ⟨hi, q⟩ := List.getElem?_eq_some_iff.mp t.he
    rw [← q]
    exact List.set_getElem_self hi
  have g1 := go_slot (s := .adr p) (s' := .emp) t.go.rel t.slot .emp (fun _ z => by cases z) (fun _ z => by cases z) (fun _ z => by cases z)
  rw [e] at g1
  exact g1.rel
/-- a new entry -/
theorem DG.new (t : DG K ρ0 σ0 F0 H0 i p T ρ σ F H) (r0 : Rel K F0 H0 ρ0 σ0) {k : Int} {q : Addr} (hq : H q = some (.lst [])) (fq : F q = none) (h0 : H0 q = none) (oq : ¬ Own (ρ.set i (.adr p)) σ q) (nq : q ∉ plS p T) (hk : k ∉ T.map (·.1)) : DG K ρ0 σ0 F0 H0 i p (T ++ [(k, q, [])]) ρ σ F (upd H p (dgH (T ++ [(k, q, [])]))) := by
  have hS : ∀ b ∈ plS p T, H0 b = none ∧ F b = none ∧ ¬ Own (ρ.set i (.adr p)) σ b := t.no
  have nd := List.nodup_cons.mp t.nd
  have hqp : q ≠ p := fun z => nq (by rw [z]; exact List.mem_cons_self)
  have e3 : (T ++ [(k, q, ([] : List D))]).map (·.2.1) = T.map (·.2.1) ++ [q] := by rw [List.map_append]; rfl
  have pl : ∀ b, b ∈ plS p (T ++ [(k, q, ([] : List D))]) ↔ b ∈ plS p T ∨ b = q := fun b => by
    unfold plS
    rw [e3, List.mem_cons, List.mem_cons, List.mem_append, List.mem_singleton, or_assoc]
  refine ⟨Go.mutS r0 t.go (S := plS p T) hS ⟨Same.refl F, fun a u h => ?_, fun z u hz h => ⟨?_, fun _ e => e⟩⟩, t.he, upd_same, fun x hx => ?_, fun b hb => ?_, ?_, ?_⟩
  · rw [upd_ne (fun z => by rw [z, (t.no p List.mem_cons_self).2.1] at h; cases h)]
    exact t.go.rel.ex a u h
  · rw [upd_ne (fun y => hz (by rw [y]; exact List.mem_cons_self))]; exact h
  · rcases List.mem_append.mp hx with hx | hx
    · obtain ⟨xs, h, rr⟩ := t.ch x hx
      refine ⟨xs, ?_, rr⟩
      rw [upd_ne (fun z => nd.1 (by rw [← z]; exact List.mem_map_of_mem hx))]
      exact h
    · rw [List.mem_singleton.mp hx]
      exact ⟨[], by rw [upd_ne hqp]; exact hq, .nil⟩
  · rcases (pl b).mp hb with hb | rfl
    · exact t.no b hb
    · exact ⟨h0, fq, oq⟩
  · unfold plS
    rw [e3]
    refine List.nodup_cons.mpr ⟨fun z => (List.mem_append.mp z).elim nd.1 fun z => hqp (List.mem_singleton.mp z).symm, List.nodup_append.mpr ⟨nd.2, List.pairwise_singleton _ _, fun a ha b hb e => nq ?_⟩⟩
    rw [← List.mem_singleton.mp hb, ← e]
    exact List.mem_cons_of_mem _ ha
  · rw [List.map_append]
    refine List.nodup_append.mpr ⟨t.kd, List.pairwise_singleton _ _, fun a ha b hb e => hk ?_⟩
    have : b = k := List.mem_singleton.mp hb
    rw [← this, ← e]
    exact ha
def appT (k : Int) (v : D) (T : GT3) : GT3 := T.map fun t => if t.1 = k then (t.1, t.2.1, t.2.2 ++ [v]) else t
theorem appT_pl (k : Int) (v : D) (T : GT3) : (appT k v T).map (·.2.1) = T.map (·.2.1) ∧ (appT k v T).map (·.1) = T.map (·.1) := by
  unfold appT
  rw [List.map_map, List.map_map]
  constructor
  · refine List.map_congr_left fun t _ => ?_
    show (if t.1 = k then (t.1, t.2.1, t.2.2 ++ [v]) else t).2.1 = t.2.1
    split <;> rfl
  · refine List.map_congr_left fun t _ => ?_
    show (if t.1 = k then (t.1, t.2.1, t.2.2 ++ [v]) else t).1 = t.1
    split <;> rfl
theorem DG.app (t : DG K ρ0 σ0 F0 H0 i p T ρ σ F H) (r0 : Rel K F0 H0 ρ0 σ0) {x : Int × Addr × List D} (hx : x ∈ T) {xs : List V} (h : H x.2.1 = some (.lst xs)) {v : V} {d : D} (rr : RpAll K F (xs ++ [v]) (x.2.2 ++ [d])) : DG K ρ0 σ0 F0 H0 i p (appT x.1 d T) ρ σ F (upd H x.2.1 (.lst (xs ++ [v]))) := by
  obtain ⟨e1, e2⟩ := appT_pl x.1 d T
  have ep : plS p (appT x.1 d T) = plS p T := by unfold plS; rw [e1]
  have nd := List.nodup_cons.mp t.nd
  have hxp : x.2.1 ∈ T.map (·.2.1) := List.mem_map_of_mem hx
  have hne : p ≠ x.2.1 := fun z => nd.1 (by rw [z]; exact hxp)
  have inj : ∀ {a b : Int × Addr × List D}, a ∈ T → b ∈ T → a.2.1 = b.2.1 → a = b := fun {a b} ha hb e => by
    obtain ⟨m, hm, rfl⟩ := List.getElem_of_mem ha
    obtain ⟨n, hn, rfl⟩ := List.getElem_of_mem hb
    have z := at_inj nd.2 (m := m) (n := n) (a := T[m].2.1) (by rw [List.getElem?_map, List.getElem?_eq_getElem hm]; rfl) (by rw [List.getElem?_map, List.getElem?_eq_getElem hn, e]; rfl)
    subst z
    rfl
  have injk : ∀ {a : Int × Addr × List D}, a ∈ T → a.1 = x.1 → a = x := fun {a} ha e => by
    obtain ⟨m, hm, rfl⟩ := List.getElem_of_mem ha
    obtain ⟨n, hn, rfl⟩ := List.getElem_of_mem hx
    by_cases z : m = n
    · subst z; rfl
    · exfalso
      have := List.pairwise_iff_getElem.mp t.kd
      rcases Nat.lt_or_gt_of_ne z with z | z
      · exact this m n (by rw [List.length_map]; exact hm) (by rw [List.length_map]; exact hn) z (by rw [List.getElem_map, List.getElem_map]; exact e)
      · exact this n m (by rw [List.length_map]; exact hn) (by rw [List.length_map]; exact hm) z (by rw [List.getElem_map, List.getElem_map]; exact e.symm)
  refine ⟨Go.mutS r0 t.go (S := plS p T) t.no ⟨Same.refl F, fun a u h => ?_, fun z u hz h => ⟨?_, fun _ e => e⟩⟩, t.he, ?_, fun y hy => ?_, fun b hb => ?_, by rw [ep]; exact t.nd, by rw [e2]; exact t.kd⟩
  · rw [upd_ne (fun z => by rw [z, (t.no _ (List.mem_cons_of_mem _ hxp)).2.1] at h; cases h)]
    exact t.go.rel.ex a u h
  · rw [upd_ne (fun y => hz (by rw [y]; exact List.mem_cons_of_mem _ hxp))]; exact h
  · rw [upd_ne hne, t.hp]
    unfold dgH
    have : (appT x.1 d T).map (fun t => ((Sum.inl t.1 : Key), V.ref t.2.1)) = T.map fun t => ((Sum.inl t.1 : Key), V.ref t.2.1) := by
      unfold appT
      rw [List.map_map]
      refine List.map_congr_left fun t _ => ?_
      show ((Sum.inl (if t.1 = x.1 then (t.1, t.2.1, t.2.2 ++ [d]) else t).1 : Key), V.ref (if t.1 = x.1 then (t.1, t.2.1, t.2.2 ++ [d]) else t).2.1) = _
      split <;> rfl
    rw [this]
  · unfold appT at hy
    obtain ⟨z, hz, rfl⟩ := List.mem_map.mp hy
    by_cases e : z.1 = x.1
    · have := injk hz e
      subst this
      rw [if_pos rfl]
      exact ⟨_, upd_same, rr⟩
    · rw [if_neg e]
      obtain ⟨ys, h1, h2⟩ := t.ch z hz
      refine ⟨ys, ?_, h2⟩
      rw [upd_ne (fun y => e (by rw [inj hz hx y]))]
      exact h1
  · rw [ep] at hb
    exact t.no b hb
end
end G


set_option maxHeartbeats 4000000
namespace G
open PySem PySem.Spec PyProof.Rows L2
theorem mt_setdK {X : Cx} : MtR X "dict.setdefault" rSetd := by
  intro pins s σ H x xs v us Q I rx rxs h
  obtain ⟨a, kvs, k, d, rfl, rfl, ea, hl, w1, w2⟩ := h
  cases rx
  obtain ⟨u1, u2, rfl, r1, r2⟩ := vals2 rxs
  obtain ⟨z, hd, vs0, rel, dd⟩ := dk_of I.hok ea
  have dd2 := dd
  obtain ⟨o, es, ep, eo, exd, hdat, _⟩ := dd2
  have hz : vs0.length ≤ sizeLine := by rw [← rel.length]; exact z
  refine call_meetsIn PySem.F.slot_dict_setdefault ⟨o, eo, exd.1⟩ PySem.F.entry_dict_setdefault (F.args_dict_setdefault_3 _ _ _) (kt_meets_setdefault (mixKind X.prog X.w) _ (kV_is r1) hd _) ⟨vs0, dd, hz, fun u hu => ?_, fun hn h' dd' hs => ?_⟩
  · have rr := rel.val k
    rw [hu] at rr
    cases hv : valV kvs k with
    | none => rw [hv] at rr; exact False.elim rr
    | some x =>
      rw [hv] at rr
      exact (⟨x, H, I.tok _, rr, w1 x hv⟩ : EP X pins σ Q u _)
  · have rr := rel.val k
    rw [hn] at rr
    cases hv : valV kvs k with
    | some x => rw [hv] at rr; exact False.elim rr
    | none =>
      have hl2 : (putK kvs k d).length ≤ sizeLine := by have := length_putK kvs k d; omega
      exact (⟨d, _, d_write (t' := s.toks + 1) I (by rw [ea]; exact True.intro) hs (let ⟨q, _, _, hq, _⟩ := dd'; ⟨q, hq⟩) (dk_new hl2 hd (rel.put k r2) dd'), r2, w2 hv⟩ : EP X pins σ Q _ _)

def viewHO (d p : Addr) : HO := .ext fun h => h.get? p = some { cls := .type "dict_values", data := .fields #[.ref d] }
def rVals : V → List V → Hp → VK → Prop := fun x xs H Q => ∃ (d : Addr) (kvs : List (Key × V)), x = .ref d ∧ xs = [] ∧ H d = some (.dK kvs) ∧ ∀ p, H p = none → Q (.ref p) (upd H p (viewHO d p))
theorem mt_vals {X : Cx} : MtR X "dict.values" rVals := by
  intro pins s σ H x xs v us Q I rx rxs h
  obtain ⟨d, kvs, rfl, rfl, hd, q⟩ := h
  cases rx
  cases rxs
  obtain ⟨z, hs, vs0, rel, dd⟩ := dk_of I.hok hd
  obtain ⟨es, ep, hraw, _⟩ := dd.raw
  have hraw2 := hraw
  obtain ⟨o, eo, exd, hdat⟩ := hraw2
  refine call_meetsIn PySem.F.slot_dict_values ⟨o, eo, exd.1⟩ PySem.F.entry_dict_values (PySem.F.args_dict_values_1 _) (meets_dict_values_raw d hs) ⟨⟨es, ep, hraw⟩, ?_⟩
  have eb : (s.heap.push { cls := .type "dict_values", data := .fields #[.ref d] }).get? s.heap.objs.size = some { cls := .type "dict_values", data := .fields #[.ref d] } := Heap.get?_push_size _ rfl
  exact (⟨.ref s.heap.objs.size, _, I.laid (t' := s.toks) (a := s.heap.objs.size) (o := viewHO d s.heap.objs.size) (fun b u q => Heap.get?_push_of_some _ q) (Nat.le_refl _) ⟨eb, ⟨_, eb⟩, fun h1 h2 f k => k _ f⟩, rfl, q _ (I.hok.fresh (Nat.le_refl _))⟩ : EP X pins σ Q _ _)
def rSortV (K : PySem.W.Frag) : List V → Hp → VK → Prop := fun vs H Q => ∃ (v d : Addr) (kvs : List (Key × V)) (ds : List PyData) (bs : List (V × D)), vs = [V.ref v] ∧ H v = some (viewHO d v) ∧ H d = some (.dK kvs) ∧ DpAll K H (kvs.map (·.2)) ds ∧ sortOk ds = true ∧ bs.map (·.1) = kvs.map (·.2) ∧ bs.map (fun b => pyOf b.2) = ds ∧
  ∀ p, H p = none → Q (.ref p) (upd H p (.lst ((bs.mergeSort (PySem.W.dataLe false fun b => pyOf b.2)).map (·.1))))
theorem cr_sortedV {X : Cx} (hc : X.calm = true) (hu : X.A.units + 200 < cLine) : CallR X (.builtin "sorted") (rSortV X.K) := by
  intro pins s σ H vs us Q I r h
  obtain ⟨v, d, kvs, ds, bs, rfl, hv, hd, hdp, hok, e1, e2, q⟩ := h
  rw [Vals.ref1 r]
  obtain ⟨z, hs, vs0, rel, dd⟩ := dk_of I.hok hd
  obtain ⟨ep, hat⟩ := dd.dictAt
  have hl : vs0.length = kvs.length := (Paired.length rel).symm
  have hview : s.heap.IsValuesView v d := ⟨_, (I.hok v _ hv).1, rfl, rfl⟩
  refine Calls.call_function_entry PyProof.Rows.kind_sorted PyProof.Rows.plain_sorted PyProof.Rows.entry_sorted (PyProof.Rows.args_sorted1 _) ?_
  unfold Builtin.«sorted»
  refine wpAny_bind (m := checkCount "sorted" 1 1 _) (wpAny_pure ?_)
  refine wpAny_bind (PySem.W.kdu_collect (A := X.A.in1) (PySem.W.kdl_values (knd := mixKind X.prog X.w) (r := v) (d := d) (kvs := vs0) (ep := ep)) (I.ok.hd hc) ⟨hview, hat⟩ (by omega) fun h' tk acc kp it => ?_)
  have ea : acc.toList = vs0.map (·.2) := by
    have hl2 : acc.toList.length = vs0.length := by rw [Array.length_toList, it.1]
    apply List.ext_getElem?
    intro j
    rw [List.getElem?_map]
    cases hj : acc.toList[j]? with
    | none =>
      have h1 := List.getElem?_eq_none_iff.mp hj
      rw [List.getElem?_eq_none (by omega)]
      rfl
    | some u =>
      obtain ⟨k, hk⟩ := it.2 j u (by rw [← Array.getElem?_toList]; exact hj)
      rw [hk]
      rfl
  have rv : Vals (kvs.map (·.2)) acc.toList := by
    rw [ea]
    clear it ea
    clear hdp hok e1 hat dd hl z hd
    induction rel with
    | nil => exact .nil
    | cons h1 _ ih => exact .cons h1.2 ih
  have hz : acc.toList.length ≤ sizeLine := by rw [ea, List.length_map]; omega
  generalize acc.toList = its at rv hz
  have I1 : Inv X pins σ H { s with heap := h', toks := tk } := I.kept kp
  obtain ⟨as, hr⟩ := Dp.readsAll I1 ds _ its hdp rv
  obtain ⟨k1, k2, k3⟩ := sortOk_of hok
  refine wpAny_bind (wpAny_newList ?_ hz)
  have hoL : (h'.push (seqObj "list" its.toArray 0)).get? h'.objs.size = some (seqObj "list" its.toArray 0) := Heap.get?_push_size _ rfl
  have hr2 := readsAll_keeps (h' := PySem.W.sortingHeap (h'.push (seqObj "list" its.toArray 0)) h'.objs.size its) (fun b o e => by
    rw [PySem.W.sortingHeap_old (Nat.ne_of_lt (Heap.lt_size e)) (Heap.get?_push_of_some _ e)]) hr
  have S := PySem.W.SortsAt.data (prog := X.prog) (w := X.w) (A := X.A.in1.in1) (s := { s with heap := PySem.W.sortingHeap (h'.push (seqObj "list" its.toArray 0)) h'.objs.size its, toks := tk }) (each_reads hr2) k1 k2 (fun d hm => by
    have := k3 d hm
    show X.A.units + 1 + 1 + d.depth < cLine
    omega)
  have ko : PySem.W.KeyedOut false (bs.map fun b => pyOf b.2) its (PySem.W.sortVals (PySem.W.dataKind (PySem.W.sortingHeap (h'.push (seqObj "list" its.toArray 0)) h'.objs.size its) ds) false its its) := by
    rw [e2]
    exact ⟨_, its, k1, rfl, each_reads hr2⟩
  have ev := PySem.W.keyedOut_each (fun b : V × D => pyOf b.2) ko (each_of_vals e1 rv)
  have vv := vals_of_each ev
  obtain ⟨c, hcc⟩ := PyProof.Rows.sortedHeap_at (vs := its) (out := (PySem.W.sortVals (PySem.W.dataKind (PySem.W.sortingHeap (h'.push (seqObj "list" its.toArray 0)) h'.objs.size its) ds) false its its).toArray) hoL
  have hlen : ((bs.mergeSort (PySem.W.dataLe false fun b => pyOf b.2)).map (·.1)).length ≤ sizeLine := by
    rw [List.length_map, (List.mergeSort_perm _ _).length_eq]
    have : bs.length = kvs.length := by
      have := congrArg List.length e1
      rwa [List.length_map, List.length_map] at this
    omega
  refine wpAny_bind (wpAny_holding (wpAny_call_entry PyProof.Rows.slot_list_sort ⟨_, hoL, rfl⟩ PyProof.Rows.entry_list_sort (PySem.W.list_sort_vals (κ := PySem.W.dataKind (PySem.W.sortingHeap (h'.push (seqObj "list" its.toArray 0)) h'.objs.size its) ds) hoL S hz ⟨.none, rfl, ?_⟩) (PyProof.Rows.args_list_sort _)))
  refine wpAny_pure ⟨_, rfl, .ref h'.objs.size, _, I1.laid (t' := tk) (o := .lst ((bs.mergeSort (PySem.W.dataLe false fun b => pyOf b.2)).map (·.1))) (fun b u e => ?_) (Nat.le_refl _) ⟨hlen, _, c, vv, hcc⟩, rfl, q _ (I1.hok.fresh (Nat.le_refl _))⟩
  have hlt := Heap.lt_size e
  show (PyProof.Rows.sortedHeap (h'.push (seqObj "list" its.toArray 0)) h'.objs.size its _).get? b = some u
  rw [PyProof.Rows.sortedHeap_old (Nat.ne_of_lt hlt) (by rw [size_push']; exact Nat.lt_succ_of_lt hlt)]
  exact Heap.get?_push_of_some _ e
end G


set_option maxHeartbeats 4000000
namespace G
open PySem PySem.Spec PyProof.Rows L2

/-- new objects come to be known for good -/
theorem Go.freeze {K : PySem.W.Frag} {ρ0 ρ : Rho} {σ0 σ : L2.St} {F0 H0 F H : Hp} {S : List Addr} (r0 : Rel K F0 H0 ρ0 σ0) (g : Go K ρ0 σ0 F0 H0 ρ σ F H) (hS : ∀ q ∈ S, H0 q = none ∧ F q = none ∧ ¬ Own ρ σ q) : Go K ρ0 σ0 F0 H0 ρ σ (Fs F H S) H := by
  have r := g.rel
  have nrd : ∀ {j : Nat} {d : D} {q : Addr}, ρ[j]? = some (.rd d) → σ[j]? = some (some (.ref q)) → F q = none → q ∉ S := fun {j d q} h1 h2 hf hq => by
    obtain ⟨k1, k2⟩ := g.rdb j d h1
    rw [h2] at k2
    have z := r0.at' j _ _ k1 k2.symm
    cases z with
    | rd z =>
      cases z with
      | val rp nf => exact rp_at (rp.mono g.ex) nf hf
      | own _ e _ => rw [(hS q hq).1] at e; cases e
  have ex : Same F (Fs F H S) := fun a o h => by
    unfold Fs
    rw [if_neg (fun z => by rw [(hS a z).2.1] at h; cases h)]
    exact h
  have nfs : ∀ q, q ∉ S → F q = none → Fs F H S q = none := fun q hq h => by unfold Fs; rw [if_neg hq]; exact h
  refine ⟨⟨fun a o h => ?_, r.len, fun m u o h1 h2 => ?_, r.dis, r.rdis⟩, g.ex.trans ex, fun a o h1 h2 h3 => ?_, g.own, g.low, g.lowO, g.rdb⟩
  · unfold Fs at h
    split at h
    · exact h
    · exact r.ex a o h
  · have z := r.at' m u o h1 h2
    cases z with
    | emp => exact .emp
    | adr => exact .adr
    | val rp => exact .val (rp.mono ex)
    | @own b o d z1 z2 z3 => exact .own (nfs b (fun hq => (hS b hq).2.2 ⟨m, d, h1, h2⟩) z1) z2 (z3.mono ex)
    | @rd v d ra =>
      cases ra with
      | val rp nf => exact .rd (.val (rp.mono ex) nf)
      | @own b o d z1 z2 z3 => exact .rd (.own (nfs b (nrd h1 h2 z1) z1) z2 (z3.mono ex))
  · have na : a ∉ S := fun z => by rw [(hS a z).1] at h1; cases h1
    obtain ⟨k1, k2⟩ := g.keep a o h1 h2 h3
    exact ⟨k1, fun n => nfs a na (k2 n)⟩
abbrev GL := List (Int × List D)
def addG (G : GL) (k : Int) (v : D) : GL := if k ∈ G.map (·.1) then G.map (fun e => if e.1 = k then (e.1, e.2 ++ [v]) else e) else G ++ [(k, [v])]
def smallG (G : GL) : Bool := decide (G.length < 1000) && G.all fun e => decide (e.2.length < 1000)
noncomputable def grpRun (i : Nat) (g : XG) (tk tv : XV) : List D → GL → Rho → Option (GL × Rho)
  | [], G, ρ => some (G, ρ)
  | d :: ds, G, ρ => match unifO i fun p => g d (ρ.set i (.adr p)) with
    | none => none
    | some ρ1 => gk i (tk ρ1) fun k ρ2 => gk i (tv ρ2) fun v ρ3 => match k with
      | .int n => if smallG G = true then grpRun i g tk tv ds (addG G n v) ρ3 else none
      | _ => none
def grpEnd : Option (GL × Rho) → Fl
  | some (G, ρ) => (match dSorted [.lst (G.map fun e => .lst e.2)] with
    | some r => .ret r ρ
    | none => .bad)
  | none => .bad
noncomputable def grp1 (i : Nat) (g : XG) (tk tv : XV) : Res D → Fl
  | .ok (.lst ds) ρ1 => if isEmp i ρ1 = true then grpEnd (grpRun i g tk tv ds [] ρ1) else .bad
  | _ => .bad
noncomputable def xGroup (i : Nat) (te : XV) (g : XG) (tk tv : XV) : XS := fun ρ => if noOwnA ρ = true ∧ i < ρ.length then grp1 i g tk tv (te (ρ.set i .emp)) else .bad
def cnG3 (T : GT3) : GL := T.map fun t => (t.1, t.2.2)
theorem cnt_app (T : GT3) (k : Int) (v : D) (h : k ∈ T.map (·.1)) : cnG3 (appT k v T) = addG (cnG3 T) k v := by
  have e : (cnG3 T).map (·.1) = T.map (·.1) := by unfold cnG3; rw [List.map_map]; rfl
  unfold addG
  rw [e, if_pos h]
  unfold cnG3 appT
  rw [List.map_map, List.map_map]
  refine List.map_congr_left fun t _ => ?_
  show ((if t.1 = k then (t.1, t.2.1, t.2.2 ++ [v]) else t).1, (if t.1 = k then (t.1, t.2.1, t.2.2 ++ [v]) else t).2.2) = if t.1 = k then (t.1, t.2.2 ++ [v]) else (t.1, t.2.2)
  by_cases hk : t.1 = k
  · rw [if_pos hk, if_pos hk]
  · rw [if_neg hk, if_neg hk]
theorem cnt_new (T : GT3) (k : Int) (q : Addr) (v : D) (h : k ∉ T.map (·.1)) : cnG3 (appT k v (T ++ [(k, q, [])])) = addG (cnG3 T) k v := by
  have e : (cnG3 T).map (·.1) = T.map (·.1) := by unfold cnG3; rw [List.map_map]; rfl
  unfold addG
  rw [e, if_neg h]
  unfold cnG3 appT
  rw [List.map_append, List.map_append, List.map_map]
  congr 1
  · refine List.map_congr_left fun t ht => ?_
    show ((if t.1 = k then (t.1, t.2.1, t.2.2 ++ [v]) else t).1, (if t.1 = k then (t.1, t.2.1, t.2.2 ++ [v]) else t).2.2) = (t.1, t.2.2)
    rw [if_neg (fun z => h (by rw [← z]; exact List.mem_map_of_mem ht))]
  · show [((if k = k then (k, q, [] ++ [v]) else (k, q, [])).1, (if k = k then (k, q, [] ++ [v]) else (k, q, [])).2.2)] = _
    rw [if_pos rfl]
    rfl
theorem val_dg {T : GT3} {k : Int} : (∀ u, valV (T.map fun t => ((Sum.inl t.1 : Key), V.ref t.2.1)) (.inl k) = some u → ∃ t ∈ T, t.1 = k ∧ u = .ref t.2.1) ∧ (valV (T.map fun t => ((Sum.inl t.1 : Key), V.ref t.2.1)) (.inl k) = none → k ∉ T.map (·.1)) := by
  unfold valV
  constructor
  · intro u h
    cases e : (T.map fun t => ((Sum.inl t.1 : Key), V.ref t.2.1)).find? fun kv => decide (kv.1 = .inl k) with
    | none => rw [e] at h; cases h
    | some x =>
      rw [e] at h
      have h1 := List.mem_of_find?_eq_some e
      have h2 : decide (x.1 = (.inl k : Key)) = true := List.find?_some (p := fun kv : Key × V => decide (kv.1 = .inl k)) e
      have h2 := of_decide_eq_true h2
      obtain ⟨t, ht, rfl⟩ := List.mem_map.mp h1
      simp only at h2
      injection h2 with h2
      cases h
      exact ⟨t, ht, h2, rfl⟩
  · intro h hk
    cases e : (T.map fun t => ((Sum.inl t.1 : Key), V.ref t.2.1)).find? fun kv => decide (kv.1 = .inl k) with
    | some x => rw [e] at h; cases h
    | none =>
      obtain ⟨t, ht, hk⟩ := List.mem_map.mp hk
      have := List.find?_eq_none.mp e (.inl t.1, .ref t.2.1) (List.mem_map_of_mem (f := fun t => ((Sum.inl t.1 : Key), V.ref t.2.1)) ht)
      simp [hk] at this
theorem put_dg {T : GT3} {k : Int} {q : Addr} (h : k ∉ T.map (·.1)) : putK (T.map fun t => ((Sum.inl t.1 : Key), V.ref t.2.1)) (.inl k) (.ref q) = (T ++ [(k, q, ([] : List D))]).map fun t => ((Sum.inl t.1 : Key), V.ref t.2.1) := by
  unfold putK
  rw [if_neg, List.map_append]
  · rfl
  · intro z
    obtain ⟨x, hx, e⟩ := List.any_eq_true.mp z
    obtain ⟨t, ht, rfl⟩ := List.mem_map.mp hx
    have := of_decide_eq_true e
    simp only at this
    injection this with this
    exact h (by rw [← this]; exact List.mem_map_of_mem ht)
section
variable {X : Cx} {E : EW} {i : Nat}
theorem group_of {te : XV} {g : XG} {tk tv : XV} {fr : Bool} (h0 : i ≠ 0) (hf : fr = false) {C : Ends} {σ : L2.St} {H : Hp} (h : lS X.K E fr (xGroup i te g tk tv) C σ H) :
    tSeq (tAsg tDNewK (gName i)) (tSeq (tFor (iList X.K (lE X.K E te)) (lG X.K tAny g) (tDrop (tBM X.K "list" rAppend (tBM X.K "dict" rSetd (tVar i) (tCons (lE X.K E tk) (tCons (tLst tNil) tNil))) (tCons (lE X.K E tv) tNil))))
      (tRet (tCB (rSortV X.K) (tCons (tBM0 X.K "dict" rVals (tVar i)) tNil)))) C σ H := by
  subst hf
  obtain ⟨F, ρ, r, p⟩ := h
  unfold PendS xGroup at p
  by_cases hn : noOwnA ρ = true ∧ i < ρ.length
  rotate_left
  · rw [if_neg hn] at p; exact p.elim
  rw [if_pos hn] at p
  have n0 := noOwn_of hn.1
  intro pa hpa
  have hlen : i < σ.length := by rw [← r.len]; exact hn.2
  have gS := Go.setSlot (i := i) (s := .adr pa) (o := some (V.ref pa)) h0 (fun _ z => by cases z) (fun _ z => by cases z) r .adr
  have gB := Gr.newO (o := .dK []) gS.rel.ex hpa
  have gH := gS.trans r (gB.go gS.rel)
  have eS : (ρ.set i .emp).set i (.adr pa) = ρ.set i (.adr pa) := by rw [List.set_set]
  have noX : ∀ q, ¬ Own (ρ.set i (.adr pa)) (σ.set i (some (V.ref pa))) q := fun q ⟨m, d, h1, _⟩ => by
    rcases get_set h1 with ⟨_, z⟩ | ⟨_, h1⟩
    · cases z
    · exact n0 _ (List.mem_of_getElem? h1) d rfl
  have t0 : DG X.K ρ σ F H i pa [] (ρ.set i .emp) (σ.set i (some (V.ref pa))) F (upd H pa (.dK [])) :=
    ⟨by rw [eS]; exact gH, List.getElem?_set_self hn.2, upd_same, fun t ht => absurd ht List.not_mem_nil, fun q hq => by
      rw [List.mem_singleton.mp hq, eS]
      exact ⟨hpa, r.ex.free hpa, noX pa⟩, List.pairwise_singleton _ _, List.nodup_nil⟩
  -- the walk
  cases er : te (ρ.set i .emp) with
  | exc _ _ => rw [er] at p; exact p.elim
  | bad => rw [er] at p; exact p.elim
  | ok dl ρ1 =>
  rw [er] at p
  cases dl with
  | lst ds =>
    unfold grp1 at p
    simp only at p
    by_cases he1 : isEmp i ρ1 = true
    rotate_left
    · rw [if_neg he1] at p; exact p.elim
    rw [if_pos he1] at p
    cases eG : grpRun i g tk tv ds [] ρ1 with
    | none => rw [eG] at p; exact p.elim
    | some GR =>
    obtain ⟨Gf, ρf⟩ := GR
    rw [eG] at p
    unfold grpEnd at p
    simp only at p
    cases eD : dSorted [.lst (Gf.map fun e => .lst e.2)] with
    | none => rw [eD] at p; exact p.elim
    | some rd =>
    rw [eD] at p
    simp only at p
    refine ⟨F, _, t0.view, ?_⟩
    unfold Pend
    simp only [er]
    intro F1 H1 g1 v rv
    have t1 := t0.expr r (isEmp_of he1) g1
    cases rv with
    | @lst a xs _ fa ra =>
    refine ⟨a, rfl, ⟨xs, SqL.of (t1.go.rel.ex _ _ fa)⟩, ?_⟩
    refine ⟨fun n m σ' H' => m = ds.length - n ∧ n ≤ ds.length ∧ ∃ T ρ2 F2, Same F1 F2 ∧ DG X.K ρ σ F H i pa T ρ2 σ' F2 H' ∧ grpRun i g tk tv (ds.drop n) (cnG3 T) ρ2 = some (Gf, ρf), ⟨ds.length, rfl, Nat.zero_le _, [], ρ1, F1, Same.refl _, t1, by rw [List.drop_zero]; exact eG⟩, ?_⟩
    rintro n m σ' H' ⟨rfl, hnl, T, ρ2, F2, s2, t2, hR⟩
    have hq : ∀ {F3 H3 : Hp} {ρ3 : Rho} {σ3 : L2.St}, Same F1 F3 → DG X.K ρ σ F H i pa T ρ3 σ3 F3 H3 → SqL X.K H3 a xs := fun s t => SqL.of (t.go.rel.ex _ _ (s _ _ fa))
    by_cases hlt : n < ds.length
    · obtain ⟨y, hy, ry⟩ := ra.get (List.getElem?_eq_getElem hlt)
      refine .inr ⟨⟨xs, y, hq s2 t2, hy⟩, fun σ3 H3 => n + 1 ≤ ds.length ∧ ∃ T3 ρ3 F3, Same F1 F3 ∧ DG X.K ρ σ F H i pa T3 ρ3 σ3 F3 H3 ∧ grpRun i g tk tv (ds.drop (n + 1)) (cnG3 T3) ρ3 = some (Gf, ρf), fun σ3 H3 hN => ⟨ds.length - (n + 1), by omega, rfl, hN⟩, fun x H3 yy => ?_⟩
      obtain ⟨rfl, yy⟩ := yy
      have hxy := yy xs (hq s2 t2)
      rw [hy] at hxy
      cases hxy
      rw [List.drop_eq_getElem_cons hlt] at hR
      unfold grpRun at hR
      cases hu : unifO i fun p => g ds[n] (ρ2.set i (.adr p)) with
      | none => rw [hu] at hR; cases hR
      | some ρ4 =>
      rw [hu] at hR
      simp only at hR
      obtain ⟨he4, hg4⟩ := unifO_spec hu
      refine ⟨F2, _, ds[n], _, t2.go.rel, ry.mono s2, hg4 pa, fun σ4 _ g4 => ?_⟩
      have t4 := t2.step r he4 g4
      obtain ⟨kd, ρ5, ek, he5, hR⟩ := gk_of hR
      obtain ⟨vd, ρ6, ev, he6, hR⟩ := gk_of hR
      cases kd with
      | int k =>
        simp only at hR
        by_cases hsm : smallG (cnG3 T) = true
        rotate_left
        · rw [if_neg hsm] at hR; cases hR
        rw [if_pos hsm] at hR
        unfold smallG at hsm
        rw [Bool.and_eq_true, decide_eq_true_eq, List.all_eq_true] at hsm
        have hTl : T.length < 1000 := by have := hsm.1; unfold cnG3 at this; rwa [List.length_map] at this
        have sz : (1000 : Nat) ≤ sizeLine := by rw [sizeLine_eq]; decide
        -- found.setdefault
        refine ⟨.ref pa, t4.slot, .inr (.inr (.inl ⟨rfl, .inl ⟨_, t4.hp⟩⟩)), F2, ρ4, t4.view, ?_⟩
        unfold Pend
        simp only [ek]
        intro F5 H5 g5 w rw5
        cases rw5
        have t5 := t4.expr r he5 g5
        refine ⟨Nat.zero_le _, fun q hqn => ?_⟩
        have grq := Gr.newO (o := .lst []) t5.go.rel.ex hqn
        have t6 := t5.step r he5 (grq.go t5.go.rel)
        have fq : F5 q = none := t5.go.rel.ex.free hqn
        have hq0 : H q = none := by
          cases e : H q with
          | none => rfl
          | some u => rw [t5.go.sameH r e (n0.own q)] at hqn; cases hqn
        have oq : ¬ Own (ρ5.set i (.adr pa)) σ4 q := not_own_new t5.go.rel hqn
        have nq : q ∉ plS pa T := fun z => by
          obtain ⟨o, h1, _⟩ := t5.has q z
          rw [hqn] at h1
          cases h1
        -- what is left: append to one of T
        have fin : ∀ {T7 : GT3} {F7 H7 : Hp} {x : Int × Addr × List D}, Same F5 F7 → DG X.K ρ σ F H i pa T7 ρ5 σ4 F7 H7 → x ∈ T7 → x.1 = k → x.2.2.length < 1000 → cnG3 (appT k vd T7) = addG (cnG3 T) k vd →
            (tyV X.K "list" (.ref x.2.1) H7 ∧ tCons (lE X.K E tv) tNil σ4 H7 fun ws H8 => rAppend (.ref x.2.1) ws H8 fun _ H9 => n + 1 ≤ ds.length ∧ ∃ T3 ρ3 F3, Same F1 F3 ∧ DG X.K ρ σ F H i pa T3 ρ3 σ4 F3 H9 ∧ grpRun i g tk tv (ds.drop (n + 1)) (cnG3 T3) ρ3 = some (Gf, ρf)) := fun {T7 F7 H7 x} s7 t7 hx hxk hxl hc => by
          obtain ⟨xs7, h7, r7⟩ := t7.ch x hx
          refine ⟨.inl ⟨rfl, xs7, SqL.of h7⟩, F7, ρ5, t7.view, ?_⟩
          unfold Pend
          simp only [ev]
          intro F8 H8 g8 u ru
          have t8 := t7.expr r he6 g8
          obtain ⟨xs8, h8, r8⟩ := t8.ch x hx
          have hl8 : xs8.length < sizeLine := by have := r8.length; omega
          refine ⟨x.2.1, xs8, u, rfl, rfl, h8, hl8, hlt, appT x.1 vd T7, ρ6, F8, ?_, t8.app r hx h8 (r8.snoc ru), ?_⟩
          · exact ((s2.trans g4.ex).trans g5.ex).trans (s7.trans g8.ex)
          · rw [hxk, hc]; exact hR
        refine ⟨pa, _, .inl k, .ref q, rfl, rfl, t6.hp, ?_, fun u hu => ?_, fun hu => ?_⟩
        · rw [List.length_map]; omega
        · obtain ⟨x, hx, hxk, rfl⟩ := val_dg.1 u hu
          refine fin (Same.refl F5) t6 hx hxk ?_ (cnt_app T k vd (by rw [← hxk]; exact List.mem_map_of_mem hx))
          exact of_decide_eq_true (hsm.2 (x.1, x.2.2) (List.mem_map_of_mem (f := fun t : Int × Addr × List D => (t.1, t.2.2)) hx))
        · have hk := val_dg.2 hu
          have t7 := t6.new r (k := k) upd_same fq hq0 oq nq hk
          rw [put_dg hk]
          exact fin (x := (k, q, [])) (Same.refl F5) t7 (List.mem_append_right _ (List.mem_singleton.mpr rfl)) rfl (show 0 < 1000 by decide) (cnt_new T k q vd hk)
      | _ => simp only at hR; cases hR
    · have e : n = ds.length := by omega
      subst e
      rw [List.drop_length] at hR
      unfold grpRun at hR
      cases hR
      refine .inl ⟨⟨xs, hq s2 t2, by rw [ra.length]; exact Nat.le_refl _⟩, ?_⟩
      -- the end
      refine ⟨.ref pa, t2.slot, .inr (.inr (.inl ⟨rfl, .inl ⟨_, t2.hp⟩⟩)), pa, _, rfl, rfl, t2.hp, fun pv hpv => ?_⟩
      have eE : ρf.set i .emp = ρf := by
        obtain ⟨hi, q⟩ := List.getElem?_eq_some_iff.mp t2.he
        rw [← q]
        exact List.set_getElem_self hi
      have gE := t2.go.trans r (go_slot (s := .adr pa) (s' := .emp) t2.go.rel t2.slot .emp (fun _ z => by cases z) (fun _ z => by cases z) (fun _ z => by cases z))
      rw [eE] at gE
      have ownE : ∀ q, Own ρf σ' q → Own (ρf.set i (.adr pa)) σ' q := fun q ⟨m, d, h1, h2⟩ => by
        by_cases hm : m = i
        · subst hm; rw [t2.he] at h1; cases h1
        · exact ⟨m, d, by rw [List.getElem?_set_ne (Ne.symm hm)]; exact h1, h2⟩
      have hS : ∀ q ∈ T.map (·.2.1), H q = none ∧ F2 q = none ∧ ¬ Own ρf σ' q := fun q hq => by
        obtain ⟨z1, z2, z3⟩ := t2.no q (List.mem_cons_of_mem _ hq)
        exact ⟨z1, z2, fun w => z3 (ownE q w)⟩
      have gZ := gE.freeze r hS
      have exZ : Same F2 (Fs F2 H' (T.map (·.2.1))) := fun a o h => by
        unfold Fs
        rw [if_neg (fun z => by rw [(hS a z).2.1] at h; cases h)]
        exact h
      have raZ : RpAll X.K (Fs F2 H' (T.map (·.2.1))) ((T.map fun t => ((Sum.inl t.1 : Key), V.ref t.2.1)).map (·.2)) ((cnG3 T).map fun e => .lst e.2) := by
        unfold cnG3
        rw [List.map_map, List.map_map]
        have key : ∀ l : GT3, (∀ t ∈ l, t ∈ T) → RpAll X.K (Fs F2 H' (T.map (·.2.1))) (l.map fun t => V.ref t.2.1) (l.map fun t => D.lst t.2.2) := by
          intro l
          induction l with
          | nil => exact fun _ => .nil
          | cons t l ih =>
            intro hl
            obtain ⟨ys, h1, h2⟩ := t2.ch t (hl t List.mem_cons_self)
            refine .cons (.lst (xs := ys) ?_ (h2.mono exZ)) (ih fun u hu => hl u (List.mem_cons_of_mem _ hu))
            unfold Fs
            rw [if_pos (List.mem_map_of_mem (f := fun t : Int × Addr × List D => t.2.1) (hl t List.mem_cons_self))]
            exact h1
        exact key T fun t h => h
      have hvp : pa ≠ pv := fun z => by rw [← z, t2.hp] at hpv; cases hpv
      -- the sorted values
      unfold dSorted at eD
      have eI : dItL (.lst ((cnG3 T).map fun e => .lst e.2)) = some ((cnG3 T).map fun e => .lst e.2) := rfl
      simp only [eI, Option.bind_some] at eD
      cases q2 : toPys ((cnG3 T).map fun e => .lst e.2) with
      | none => rw [q2] at eD; cases eD
      | some ps =>
      rw [q2] at eD
      simp only [Option.bind_some] at eD
      by_cases hok : sortOk ps = true
      rotate_left
      · rw [if_neg hok] at eD; cases eD
      rw [if_pos hok] at eD
      cases eD
      have grv := Gr.newO (o := viewHO pa pv) gZ.rel.ex hpv
      have hlz := raZ.length
      refine ⟨pv, pa, _, ps, ((T.map fun t => ((Sum.inl t.1 : Key), V.ref t.2.1)).map (·.2)).zip ((cnG3 T).map fun e => .lst e.2), rfl, upd_same, ?_, dpAll_of grv.sub raZ q2, hok, zip_fst hlz, ?_, fun pl hpl => ?_⟩
      · rw [upd_ne hvp]; exact t2.hp
      · have e3 := congrArg (List.map pyOf) (zip_snd hlz)
        rw [List.map_map, toPys_pyOf q2] at e3
        exact e3
      · have grl := Gr.new (o := .lst ((((T.map fun t => ((Sum.inl t.1 : Key), V.ref t.2.1)).map (·.2)).zip ((cnG3 T).map fun e => D.lst e.2)).mergeSort (PySem.W.dataLe false fun b => pyOf b.2) |>.map (·.1))) grv.sub hpl
        have gF := gZ.trans r ((grv.trans grl).go gZ.rel)
        exact p.1 rfl (.ref pl) σ' _ _ gF (.lst upd_same ((sort_zip raZ).mono grl.ex))
  | _ => unfold grp1 at p; exact p.elim
end
end G


set_option maxHeartbeats 4000000
namespace G
open PySem PySem.Spec PyProof.Rows L2

section
variable {X : Cx} {E : EW} {i j : Nat}
theorem ri_enum {te : XV} : RI X i (iEnum X.K (tCons (lE X.K E te) tNil)) (rItE i te) := by
  refine ⟨fun {ρ0 σ0 F0 H0 p as gd ρ σ F H ds ρ1} r0 t h R N => ?_⟩
  unfold rItE at h
  split at h
  · rename_i ds' ρ1' e
    split at h
    · rename_i hc
      cases h
      refine view_E t r0 e hc.1 hc.2 fun F2 H2 v s t2 rp => ?_
      cases rp with
      | @lst a xs _ fa ra =>
        refine ⟨a, xs, rfl, SqL.of (t2.go.rel.ex _ _ fa), N _ F2 H2 s t2 fun {ρ' σ' F' H' as' gd'} s' t' => ?_⟩
        exact iters_enum (fun ρ2 σ2 F3 H3 g => SqL.of (g.rel.ex _ _ (g.ex _ _ (s' _ _ fa)))) (ra.mono s') _ _ _ _ (Go.refl t'.go.rel)
    · cases h
  · cases h
/-- X[k] = e, X a dict of the def's own, e sees the instance -/
def rLPut (i j : Nat) (tk te : XV) : RS := fun gd ρ => rv i (te (ρ.set i (.val gd))) fun d ρ1 => if cln d = true then rv i (tk (ρ1.set i (.val gd))) fun kd ρ2 => if cln kd = true ∧ i ≠ j then (match ownD j ρ1, ownD j ρ2 with
  | some y0, some y => if isDic y0 = true then (match dPutD y kd d with
    | some y' => .nx gd (ρ2.set j (.own y'))
    | none => .bad) else .bad
  | _, _ => .bad) else .bad else .bad
theorem rt_lput {tk te : XV} : RT X i (sDPut (tVar j) (lE X.K E tk) (lE X.K E te)) (rLPut i j tk te) := by
  refine ⟨fun {ρ0 σ0 F0 H0 p as gd ρ σ F H} r0 n0 t C o => ?_⟩
  obtain ⟨d, ρ1, e, hc, e2⟩ := rv_of (show rv i _ _ ≠ .bad from out_ne o)
  unfold rLPut at o
  rw [e2] at o
  by_cases hd : cln d = true
  rotate_left
  · rw [if_neg hd] at o; exact o.elim
  rw [if_pos hd] at o
  refine view_E t r0 e hc hd fun F2 H2 v s t2 rp => ?_
  obtain ⟨kd, ρ2, e3, hc2, e4⟩ := rv_of (show rv i _ _ ≠ .bad from out_ne o)
  rw [e4] at o
  by_cases hk0 : cln kd = true ∧ i ≠ j
  rotate_left
  · rw [if_neg hk0] at o; exact o.elim
  rw [if_pos hk0] at o
  obtain ⟨hk, hij⟩ := hk0
  cases q0 : ownD j (ρ1.set i .emp) with
  | none => rw [q0] at o; exact o.elim
  | some y0 =>
  rw [q0] at o
  cases q1 : ownD j (ρ2.set i .emp) with
  | none => rw [q1] at o; exact o.elim
  | some y =>
  rw [q1] at o
  simp only at o
  by_cases hy0 : isDic y0 = true
  rotate_left
  · rw [if_neg hy0] at o; exact o.elim
  rw [if_pos hy0] at o
  cases q2 : dPutD y kd d with
  | none => rw [q2] at o; exact o.elim
  | some y' =>
  rw [q2] at o
  simp only at o
  have lk : ∀ {ρ' : Rho} {z : D}, ownD j (ρ'.set i .emp) = some z → ((ρ'.set i .emp).set i (.adr p))[j]? = some (.own z) := fun {ρ' z} h => by
    rw [List.getElem?_set_ne hij]
    exact ownD_of h
  obtain ⟨a, o0, s0, f0, h0, ro0⟩ := t2.go.rel.own (lk q0)
  refine ⟨.ref a, s0, ?_⟩
  refine view_E t2 r0 e3 hc2 hk fun F3 H3 w s3 t3 rk => ?_
  obtain ⟨b, o1, s1, f1, h1, ro1⟩ := t3.go.rel.own (lk q1)
  rw [s0] at s1
  cases s1
  have rv2 := rp.mono s3
  unfold dPutD at q2
  split at q2
  · rename_i es
    cases q3 : kTof kd with
    | none => rw [q3] at q2; cases q2
    | some ks =>
      rw [q3] at q2
      simp only [Option.bind_some] at q2
      split at q2
      · rename_i hz
        cases q2
        obtain ⟨b2, rfl, hb⟩ := kTof_rp rk q3
        cases ro1 with
        | @dicT _ _ kvs _ hk2 hr2 =>
          have re := RpE.of hk2 hr2
          have rq := re.pt ks rv2
          have gm := Go.mut t3.go.rel (lk q1) s0 f1 h1 (Ro.dicT (z := false) (o := { cls := .none, data := .fields #[] }) rq.keys rq.vals)
          rw [List.set_comm _ _ hij] at gm
          refine ⟨a, _, rfl, DPut.t h1 (t3.go.rel.ex _ _ hb) (by rw [re.len]; exact hz), o _ _ _ _ (s.trans s3) (t3.step r0 ?_ gm)⟩
          rw [List.getElem?_set_ne (Ne.symm hij)]
          exact t3.he
      · cases q2
  · rename_i es
    cases q3 : kOf kd with
    | none => rw [q3] at q2; cases q2
    | some ks =>
      rw [q3] at q2
      simp only [Option.bind_some] at q2
      split at q2
      · rename_i hz
        cases q2
        have := kOf_rp rk q3
        subst this
        cases ro1 with
        | @dicK _ _ kvs _ hk2 hr2 =>
          have re := RpE.of hk2 hr2
          have rq := re.pt ks rv2
          have gm := Go.mut t3.go.rel (lk q1) s0 f1 h1 (Ro.dicK (z := false) (o := { cls := .none, data := .fields #[] }) rq.keys rq.vals)
          rw [List.set_comm _ _ hij] at gm
          refine ⟨a, _, rfl, DPut.k h1 (by rw [re.len]; exact hz), o _ _ _ _ (s.trans s3) (t3.step r0 ?_ gm)⟩
          rw [List.getElem?_set_ne (Ne.symm hij)]
          exact t3.he
      · cases q2
  · cases q2
end
theorem RT.imp {X : Cx} {i : Nat} {T T' : TS} {t : RS} (h : RT X i T t) (k : ∀ C σ H, T C σ H → T' C σ H) : RT X i T' t := ⟨fun r0 n0 t C o => k C _ _ (h.go r0 n0 t C o)⟩
section
variable {X : Cx} {E : EW} {i : Nat} {T1 T2 : TS} {t1 t2 : RS}
end
def nVal : Rho → Nat
  | .val _ :: r => nVal r + 1
  | _ => 0
theorem nVal_ini (ds : List D) (k : Nat) : nVal (ds.map Slot.val ++ List.replicate k .emp) = ds.length := by
  induction ds with
  | nil => cases k <;> rfl
  | cons d ds ih => rw [List.map_cons, List.cons_append]; unfold nVal; rw [ih]; rfl
def rArg (m : Nat) (t : RS) : RS := fun gd ρ => if nVal ρ.tail = m then t gd ρ else .bad
theorem rt_arg {X : Cx} {i m : Nat} {T : TS} {t : RS} (h : RT X i T t) : RT X i T (rArg m t) := by
  refine ⟨fun {ρ0 σ0 F0 H0 p as gd ρ σ F H} r0 n0 t C o => ?_⟩
  unfold rArg at o
  split at o
  · exact h.go r0 n0 t C o
  · exact o.elim
theorem argM {n m : Nat} {t : RS} (gd : D) (ds : List D) (h : ds.length ≠ m) : runM n (rArg m t) gd ds = none := by
  unfold runM rArg iniM
  rw [List.tail_cons, nVal_ini, if_neg h]
  rfl
section
variable {X : Cx} {cv : String → Value} {W : WX} {pos : Pos}
/-- a method without further arguments, called on the region's instance -/
theorem pe_methR0 {k i : Nat} {C f : Addr} {fd : FuncData} {ps : List Str} {sp : Sp} {m : Str} {o : Expr} {apos : Pos} {pl : Sem Bool} (he : PE X o (tVar i)) (c : Cls X.K C) (hm : Meth X.K C m f) (tk : Takes X W) (FN : FnOk X.prog X.w X.K X.mg X.base (L2.CX X.prog X.w) k f fd ps sp) (hr : Room k X.A) (hb : Binds X.K fd ps [])
    (ht : eval (.Call (.Attribute o m apos) [] [] pos) X.env = (do
      let w ← eval o X.env
      standAt apos.atName
      let (g, first) ← holding [w] (getMethod w m pl)
      callWith pos g first (backTo pos (starEach [] X.env)) (backToKw pos (keywordEach [] X.env))) := by rfl) : PE X (.Call (.Attribute o m apos) [] [] pos) (tMethS C m sp (WE W) (tVar i) (lA X.K (EWx cv W) xNil)) :=
  pe_imp (pe_methS0 (pl := pl) he c hm FN hr hb (passAt tk) ht) fun σ H Q h => by
    obtain ⟨v, s, a, dx, fs, e1, e2, e3, F, ρ, r, p⟩ := h
    exact ⟨v, s, a, dx, fs, e1, e2, e3, p F H (Go.refl r) [] .nil⟩
theorem pe_methR {k i : Nat} {C f : Addr} {fd : FuncData} {ps : List Str} {sp : Sp} {m : Str} {o e : Expr} {es : List Expr} {ta : XA} {apos : Pos} {pl : Sem Bool} (he : PE X o (tVar i)) (c : Cls X.K C) (hm : Meth X.K C m f) (tk : Takes X W) (FN : FnOk X.prog X.w X.K X.mg X.base (L2.CX X.prog X.w) k f fd ps sp) (hr : Room k X.A) (hb : Binds X.K fd ps []) (ha : PA X (e :: es) (lA X.K (EWx cv W) ta))
    (hst : starEach (e :: es) X.env = (false, eval e X.env) :: starEach es X.env := by rfl) (hpl : (backTo pos (starEach es X.env)).any (·.1) = false := by rfl)
    (ht : eval (.Call (.Attribute o m apos) (e :: es) [] pos) X.env = (do
      let w ← eval o X.env
      standAt apos.atName
      let (g, first) ← holding [w] (getMethod w m pl)
      callWith pos g first (backTo pos (starEach (e :: es) X.env)) (backToKw pos (keywordEach [] X.env))) := by rfl) : PE X (.Call (.Attribute o m apos) (e :: es) [] pos) (tMethS C m sp (WE W) (tVar i) (lA X.K (EWx cv W) ta)) :=
  pe_methS (pl := pl) he c hm FN hr hb (passAt tk) ha hst hpl ht
theorem xs_regM {c : String} {C : Addr} {k i : Nat} {f : Addr} {fd : FuncData} {ps : List Str} {g : MF} {x y : Str} {p xp : Pos} {e : Expr} {es : List Expr} {ta : XA} {rest : List Stmt} {T : TS} {t : RS} (h0 : i ≠ 0) (hc : ClsAt X.K c C) (M : Mk X.K C f) (tk : Takes X W) (FN : FnOk X.prog X.w X.K X.mg X.base (L2.CX X.prog X.w) k f fd ps (spM X.K g)) (hr : Room (k + 1) X.A) (hg : Gl X x) (hm : X.mg x = some (.ref C)) (hb : Binds X.K fd ps []) (ha : PA X (e :: es) (lA X.K (EWx cv W) ta))
    (hN : X.N.Nodup) (hi : X.N[i]? = some y) (hx : Loc X.env.scope y) (hs1 : PSs X rest T) (ht : RT X i T t)
    (hdb : (x == ("__debug__" : Str)) = false := by decide) (he : starEach (e :: es) X.env = (false, eval e X.env) :: starEach es X.env := by rfl) (hpl : (backTo pos (starEach es X.env)).any (·.1) = false := by rfl)
    (hs : swapsWith (.Call (.Name x p) (e :: es) [] pos) (some (.Name y xp)) pos.line X.env = pure false := by rfl) (hf : X.fn y = true ∨ X.env.scope.names.lookup y = some .local := by first | exact .inl rfl | exact .inr rfl | assumption) {pos2 : Pos} (hs2 : swapsWith (.Call (.Name x p) (e :: es) [] pos) (some (.Name y xp)) pos2.line X.env = pure false := by rfl) :
    PSs X (.Assign [.Name y xp] (.Call (.Name x p) (e :: es) [] pos) pos2 :: rest) (lS X.K (EWx cv W) false (xRegM i c g ta t)) :=
  pss_imp (pss_cons (ps_set hN hi hx (pe_makeS M FN hr hg hm hb (passAt tk) ha hdb he hpl) hs2 hf) hs1) fun C' σ H h => regM_of h0 rfl hc ht h
end
end G


set_option maxHeartbeats 4000000
namespace G
open PySem PySem.Spec PyProof.Rows L2

section
variable {gd d : D} {ρ ρ1 : Rho} {i j : Nat} {t1 t2 : RS}
theorem rSeq_nx {gd' : D} (h : t1 gd ρ = .nx gd' ρ1) : rSeq t1 t2 gd ρ = t2 gd' ρ1 := by unfold rSeq; rw [h]; rfl
theorem rSeq_ret {gd' : D} (h : t1 gd ρ = .ret d gd' ρ1) : rSeq t1 t2 gd ρ = .ret d gd' ρ1 := by unfold rSeq; rw [h]; rfl
theorem rv_ok {α : Type} {a : α} {k : α → Rho → RF} (h : clnR (ρ1.set i .emp) = true) : rv i (.ok a ρ1) k = k a (ρ1.set i .emp) := if_pos h
theorem rOld_of {ts : XS} {ρ2 : Rho} (he : ρ2[i]? = some .emp) (h : ∀ p, ts (ρ.set i (.adr p)) = .nx (ρ2.set i (.adr p))) : rOld i ts gd ρ = .nx gd ρ2 := by
  unfold rOld
  rw [unifA_of he h]
theorem rIf_of {c : XT} {b : Bool} (e : c (ρ.set i (.val gd)) = .ok b ρ1) (h : clnR (ρ1.set i .emp) = true) : rIf i c t1 t2 gd ρ = if b = true then t1 gd (ρ1.set i .emp) else t2 gd (ρ1.set i .emp) := by
  unfold rIf; rw [e, rv_ok h]
theorem rSet_of {te : XV} (e : te (ρ.set i (.val gd)) = .ok d ρ1) (h : clnR (ρ1.set i .emp) = true) (hd : cln d = true) (hij : i ≠ j) : rSet i j te gd ρ = .nx gd ((ρ1.set i .emp).set j (.val d)) := by
  unfold rSet; rw [e, rv_ok h]; exact if_pos ⟨hd, hij⟩
theorem rRet_of {te : XV} (e : te (ρ.set i (.val gd)) = .ok d ρ1) (h : clnR (ρ1.set i .emp) = true) (hd : cln d = true) : rRet i te gd ρ = .ret d gd (ρ1.set i .emp) := by
  unfold rRet; rw [e, rv_ok h]; exact if_pos hd
theorem rDPut_of {c : String} {f : Str} {tk te : XV} {v k d d' : D} {ρ2 : Rho} (e : te (ρ.set i (.val gd)) = .ok v ρ1) (h : clnR (ρ1.set i .emp) = true) (hv : cln v = true) (e2 : tk ((ρ1.set i .emp).set i (.val gd)) = .ok k ρ2) (h2 : clnR (ρ2.set i .emp) = true) (hk : cln k = true) (hc : clsI c gd = true) (hf : fldI f gd = some d) (ho : ownF d = true) (hp : dPutD d k v = some d') (ho' : ownF d' = true) : rDPut i c f tk te gd ρ = .nx (putI f d' gd) (ρ2.set i .emp) := by
  unfold rDPut
  rw [e, rv_ok h, if_pos hv, e2, rv_ok h2, if_pos ⟨hk, hc⟩, hf]
  simp only
  rw [if_pos ho, hp]
  exact if_pos ho'
theorem rFSet_of {c : String} {f : Str} {te : XV} {v : D} (e : te (ρ.set i (.val gd)) = .ok v ρ1) (h : clnR (ρ1.set i .emp) = true) (hv : cln v = true) (hc : clsI c gd = true) : rFSet i c f te gd ρ = .nx (putI f v gd) (ρ1.set i .emp) := by
  unfold rFSet
  rw [e, rv_ok h]
  exact if_pos ⟨hv, hc⟩
theorem rFNew_of {c : String} {f : Str} (hc : clsI c gd = true) : rFNew c f gd ρ = .nx (putI f (.dicT false []) gd) ρ := if_pos hc
theorem rFTake_of {c : String} {f : Str} {es : List (List Key × D)} (e : ρ[j]? = some (.own (.dicT false es))) (hc : clsI c gd = true) (hij : i ≠ j) : rFTake i j c f gd ρ = .nx (putI f (.dicT false es) gd) (ρ.set j .emp) := by
  unfold rFTake
  rw [e]
  exact if_pos ⟨hc, hij⟩
theorem rLPut_of {tk te : XV} {v k y y' : D} {ρ2 : Rho} (e : te (ρ.set i (.val gd)) = .ok v ρ1) (h : clnR (ρ1.set i .emp) = true) (hv : cln v = true) (e2 : tk ((ρ1.set i .emp).set i (.val gd)) = .ok k ρ2) (h2 : clnR (ρ2.set i .emp) = true) (hk : cln k = true) (hij : i ≠ j) (h0 : ownD j (ρ1.set i .emp) = some y) (h1 : ownD j (ρ2.set i .emp) = some y) (hy : isDic y = true) (hp : dPutD y k v = some y') : rLPut i j tk te gd ρ = .nx gd ((ρ2.set i .emp).set j (.own y')) := by
  unfold rLPut
  rw [e, rv_ok h, if_pos hv, e2, rv_ok h2, if_pos ⟨hk, hij⟩, h0, h1]
  simp only
  rw [if_pos hy, hp]
theorem rMeth_of {c : String} {m : Str} {g : MF} {ta : XA} {k : D → D → Rho → RF} {ds : List D} {gd' : D} (e : ta (ρ.set i (.val gd)) = .ok ds ρ1) (h : clnR (ρ1.set i .emp) = true) (hd : clns ds = true) (hi : isIns c m gd = true) (hg : g gd ds = some (d, gd')) : rMeth i c m g ta k gd ρ = k d gd' (ρ1.set i .emp) := by
  unfold rMeth rvA
  rw [e, rv_ok h, if_pos hd]
  dsimp only
  rw [if_pos hi, hg]
  rfl
/-- a loop with an invariant; every turn goes on -/
theorem rRun_inv {g : XG} {tb : RS} (I : Nat → D → Rho → Prop) : ∀ (ds : List D) (n : Nat) (gd : D) (ρ : Rho), I n gd ρ → (∀ m x gd ρ, ds[m]? = some x → I (n + m) gd ρ → ∃ ρ2 gd' ρ3, ρ2[i]? = some .emp ∧ (∀ p, g x (ρ.set i (.adr p)) = some (ρ2.set i (.adr p))) ∧ tb gd ρ2 = .nx gd' ρ3 ∧ I (n + m + 1) gd' ρ3) →
    ∃ gd' ρ', rRun i g tb ds gd ρ = .nx gd' ρ' ∧ I (n + ds.length) gd' ρ'
  | [], n, gd, ρ, h, _ => ⟨gd, ρ, rfl, h⟩
  | x :: ds, n, gd, ρ, h, hs => by
    obtain ⟨ρ2, gd', ρ3, e1, e2, e3, h2⟩ := hs 0 x gd ρ rfl h
    obtain ⟨gd2, ρ4, e4, h4⟩ := rRun_inv I ds (n + 1) gd' ρ3 h2 fun m y gd ρ hm hI => by
      obtain ⟨a, b, c, z1, z2, z3, z4⟩ := hs (m + 1) y gd ρ hm (by rw [show n + (m + 1) = n + 1 + m by omega]; exact hI)
      exact ⟨a, b, c, z1, z2, z3, by rw [show n + 1 + m + 1 = n + (m + 1) + 1 by omega]; exact z4⟩
    refine ⟨gd2, ρ4, ?_, by rw [List.length_cons, show n + (ds.length + 1) = n + 1 + ds.length by omega]; exact h4⟩
    unfold rRun
    rw [unifO_of e1 e2]
    simp only [e3]
    exact e4
theorem rFor_of {ti : D → XA} {g : XG} {tb : RS} {ds : List D} (e : ti gd ρ = .ok ds ρ1) : rFor i ti g tb gd ρ = rRun i g tb ds gd ρ1 := by
  unfold rFor
  rw [e]
theorem rItL_of {te : XV} {ds : List D} (e : te (ρ.set i (.val gd)) = .ok (.lst ds) ρ1) (h : clnR (ρ1.set i .emp) = true) (hd : clns ds = true) : rItL i te gd ρ = .ok ds (ρ1.set i .emp) := by
  unfold rItL
  rw [e]
  exact if_pos ⟨h, hd⟩
theorem rItLk_of {te : XV} {ds : List D} (e : te (ρ.set i (.val (lokI gd))) = .ok (.lst ds) ρ1) (h : clnR (ρ1.set i .emp) = true) (hd : clns ds = true) : rItLk i te gd ρ = .ok ds (ρ1.set i .emp) := by
  unfold rItLk
  rw [e]
  exact if_pos ⟨h, hd⟩
theorem rItE_of {te : XV} {ds : List D} (e : te (ρ.set i (.val gd)) = .ok (.lst ds) ρ1) (h : clnR (ρ1.set i .emp) = true) (hd : clns ds = true) : rItE i te gd ρ = .ok (enumF 0 ds) (ρ1.set i .emp) := by
  unfold rItE
  rw [e]
  exact if_pos ⟨h, hd⟩
theorem rItR1_of {te : XV} {b : Int} (e : te (ρ.set i (.val gd)) = .ok (.int b) ρ1) (h : clnR (ρ1.set i .emp) = true) (hd : inR b = true) : rItR1 i te gd ρ = .ok (rangeD 0 b.toNat) (ρ1.set i .emp) := by
  unfold rItR1
  rw [e]
  exact if_pos ⟨h, hd⟩
end
theorem clns_cells (L : List (Int × Int)) : clns (L.map cellP) = true := by
  induction L with
  | nil => rfl
  | cons p L ih => rw [List.map_cons]; unfold clns; rw [ih]; rfl
theorem clns_ints (L : List Int) : clns (L.map D.int) = true := by
  induction L with
  | nil => rfl
  | cons p L ih => rw [List.map_cons]; unfold clns; rw [ih]; rfl
theorem clns_encI (T : List ((Int × Int) × Int)) : clns ((encE D.int T).map (·.2)) = true := by
  unfold encE
  rw [List.map_map]
  exact (congrArg clns (show T.map ((fun e : List Key × D => e.2) ∘ fun e : (Int × Int) × Int => (ck e.1, D.int e.2)) = (T.map (·.2)).map D.int by rw [List.map_map]; rfl)).trans (clns_ints _)
end G


set_option maxHeartbeats 4000000
namespace G
open PySem PySem.Spec PyProof.Rows L2
local macro_rules | `(tactic| simp! [$ls,*] $[$loc:location]?) => `(tactic| simp only [zaa, zab, zac, zad, zae, zaf, zag, zah, zai, zaj, zak, zal, zam, zan, zao, zap, zaq, zar, zas, zat, zau, zav, zaw, zax, zay, zaz, zaA, zaB, zaC, zaD, zaE, zaF, zaG, zaH, zaI, zaJ, zaK, zaL, zaM, zaN, zaO, zaP, zaQ, zaR, zaS, zaT, zaU, zaV, zaW, zaX, zaY, zaZ, zba, zbb, zbc, zbd, zbe, zbf, zbg, zbh, zbi, zbj, zbk, zbl, zbm, zbn, zbo, zbp, zbq, zbr, zbs, zbt, zbu, zbv, zbw, zbx, zby, zbz, zbA, zbB, zbC, zbD, zbE, zbF, zbG, zbH, zbI, zbJ, zbK, zbL, zbM, zbN, zbO, zbP, zbQ, zbR, zbS, zbT, zbU, zbV, zbW, zbX, zbY, zbZ, zca, zcb, zcc, zcd, zce, zcf, zcg, zch, zci, zcj, zck, zcl, zcm, zcn, zco, zcp, zcq, zcr, zcs, zct, zcu, zcv, zcw, zcx, zcy, zcz, zcA, zcB, zcC, zcD, zcE, zcF, zcG, zcH, zcI, zcJ, zcK, zcL, zcM, zcN, zcO, zcP, zcQ, zcR, zcS, zcT, zcU, zcV, zcW, zcX, zcY, zcZ, zda, zdb, zdc, zdd, zde, zdf, zdg, zdh, zdi, zdj, zdk, zdl, zdm, zdn, zdo, zdp, zdq, zdr, zds, zdt, zdu, zdv, zdw, zdx, zdy, zdz, zdA, zdB, zdC, zdD, zdE, zdF, zdG, zdH, zdI, zdJ, zdK, zdL, zdM, zdN, zdO, zdP, zdQ, zdR, zdS, zdT, zdU, zdV, G.of_f, G.of_t, zdW, zdX, zdY, zdZ, zea, zeb, zec, zed, zee, zef, zeg, zeh, zei, zej, zek, zel, zem, zen, zeo, zep, zeq, zer, zes, zet, zeu, zev, zew, zex, zey, zez, zeA, zeB, zeC, zeD, zeE, zeH, zeI, zeJ, zeK, zeL, zeM, zeN, zeO, zeX, zeY, zeZ, zfa, zfb, zfc, G.sz_1, G.sz_2, G.sz_3, G.sz_4, G.sz_0, zfd, zfk, zfl, zfm, zfv, zfw, G.nc_0, G.nc_1, G.nc_2, G.nc_3, G.nc_4, G.nc_5, G.nc_6, G.nc_7, G.nc_8, G.nc_9, zfx, zfy, zfz, zfA, zfB, zfC, zfD, zfE, zfF, zfG, zfH, zfK, zfL, zfM, zfN, zfO, zgc, zgd, zge, zgf, zgg, zgh, zgi, zgj, zgk, zgl, zgm, zgn, zgo, zgp, zgq, zgr, zgs, zgt, zgu, zgv, zgw, zgx, zgy, zgz, zgA, zgB, zgC, zgD, zgE, zgF, zgG, zgH, zgI, zgJ, zgK, zgL, zgM, zgN, zgO, zgP, zgQ, zgR, zgU, zgV, zgW, zhi, zhj, zhk, zhn, zho, zhp, zhq, zhr, zhu, zhv, zhw, zhJ, zhK, List.getElem?_cons_zero, List.getElem?_cons_succ, List.set_cons_zero, List.set_cons_succ, G.atI_0, G.atI_1, G.atI_2, G.atI_3, Option.map_some, Option.bind_some, G.eqD_int, G.eqD_cell, G.eqD_bl, List.length_cons, List.length_nil, List.getD_cons_zero, List.getD_cons_succ, Bool.and_true, Bool.and_self, decide_true, decide_false, Bool.not_true, Bool.not_false, List.append_nil, List.nil_append, List.cons_append, if_true, if_false, Bool.false_eq_true, reduceIte, Int.reduceLT, Int.reduceLE, Int.reduceToNat, Int.reducePow, Int.reduceNeg, Int.reduceAdd, Int.reduceSub, Int.reduceMul, Nat.reduceAdd, Int.reduceEq, List.replicate, Nat.reduceSub, and_self, and_true, true_and, $ls,*] $[$loc]?)

noncomputable def pb_law_steps : XS := (xSeq (xSet 1 (xOpL dLst (xCons (xOpL dTup (xCons (xC (.int 0)) (xCons (xOp1 dNeg (xC (.int 1))) xNil))) (xCons (xOpL dTup (xCons (xOp1 dNeg (xC (.int 1))) (xCons (xC (.int 0)) xNil))) (xCons (xOpL dTup (xCons (xC (.int 1)) (xCons (xC (.int 0)) xNil))) (xCons (xOpL dTup (xCons (xC (.int 0)) (xCons (xC (.int 1)) xNil))) xNil))))))
    (xSeq (xIfS (xTest (xOp2 (dCmp fun i j => decide (j < i)) (xVar 0) (xC (.int 4))))
    (xSet 1 (xOp2 dAdd (xVar 1) (xOpL dLst (xCons (xOpL dTup (xCons (xOp1 dNeg (xC (.int 1))) (xCons (xOp1 dNeg (xC (.int 1))) xNil))) (xCons (xOpL dTup (xCons (xC (.int 1)) (xCons (xC (.int 1)) xNil))) xNil)))))
    xNext)
    (xSeq (xIfS (xTest (xOp2 dEq (xVar 0) (xC (.int 8))))
    (xSet 1 (xOp2 dAdd (xVar 1) (xOpL dLst (xCons (xOpL dTup (xCons (xOp1 dNeg (xC (.int 1))) (xCons (xC (.int 1)) xNil))) (xCons (xOpL dTup (xCons (xC (.int 1)) (xCons (xOp1 dNeg (xC (.int 1))) xNil))) xNil)))))
    xNext)
    (xRet (xVar 1)))))
noncomputable def p_law_steps : DF := runP [false] 2 false pb_law_steps
noncomputable def pb_law_next_1 : XS := (xSeq (xSet 5 (xOpL dTup (xCons (xOp2 dAdd (xOp2 dIx (xVar 3) (xC (.int 0))) (xOp2 dIx (xVar 4) (xC (.int 0)))) (xCons (xOp2 dAdd (xOp2 dIx (xVar 3) (xC (.int 1))) (xOp2 dIx (xVar 4) (xC (.int 1)))) xNil))))
    (xDPut 2 (xVar 5) (xOp2 dAdd (xDGet2 2 (xVar 5) (xC (.int 0))) (xC (.int 1)))))
noncomputable def bNextS_2 (S : DF) : XS := (xSeq (xDPut 2 (xVar 3) (xDGet2 2 (xVar 3) (xC (.int 0))))
    (xFor (xIt (xCall S (xCons (xOp2 dIx (xVar 0) (xC (.int 0))) xNil))) (gSet 4) pb_law_next_1))
noncomputable def pb_law_next_3 : XS := (xDPut 6 (xVar 3) (xC (.bl true)))
noncomputable def bNextS (S : DF) : XS := (xSeq (xSetO 2 (xC (.dicT false [])))
    (xSeq (xFor (xIt (xVar 1)) (gSet 3) (bNextS_2 S))
    (xSeq (xSetO 6 (xC (.dicT false [])))
    (xSeq (xFor (xIt (xVar 1)) (gSet 3) pb_law_next_3)
    (xRet (xOpL dSorted (xCons (frzV 2 (lockV 2 (xLC (xItK 2) (gSet 3) (xTest (xOp2 dInX (xDIx 2 (xVar 3)) (xOp2 dIx (xVar 0) (xOp2 dAdd (xC (.int 1)) (xOpL dInt (xCons (xCmpO dInX (xVar 3) 6) xNil)))))) (xVar 3) [3]))) xNil)))))))
noncomputable def fNextS (S : DF) : DF := runP [false, false] 7 true (bNextS S)
noncomputable def p_law_next : DF := fNextS p_law_steps
def L25 : Int → List (Int × Int)
  | 4 => [(0, -1), (-1, 0), (1, 0), (0, 1)]
  | 6 => [(0, -1), (-1, 0), (1, 0), (0, 1)] ++ [(-1, -1), (1, 1)]
  | _ => [(0, -1), (-1, 0), (1, 0), (0, 1)] ++ [(-1, -1), (1, 1)] ++ [(-1, 1), (1, -1)]
theorem st4 : p_law_steps [.int 4] = .ok (cells [(0, -1), (-1, 0), (1, 0), (0, 1)]) [] := by kernel_rfl
theorem st6 : p_law_steps [.int 6] = .ok (cells ([(0, -1), (-1, 0), (1, 0), (0, 1)] ++ [(-1, -1), (1, 1)])) [] := by kernel_rfl
theorem st8 : p_law_steps [.int 8] = .ok (cells ([(0, -1), (-1, 0), (1, 0), (0, 1)] ++ [(-1, -1), (1, 1)] ++ [(-1, 1), (1, -1)])) [] := by kernel_rfl
theorem lst_is {k : Int} (hk : Kind k) : p_law_steps [.int k] = .ok (cells (L25 k)) [] ∧ (L25 k).Perm (near k) ∧ (L25 k).length ≤ 8 := by
  rcases hk with rfl | rfl | rfl
  · exact ⟨st4, by show List.Perm [(0, -1), (-1, 0), (1, 0), (0, 1)] N4; decide, by decide⟩
  · exact ⟨st6, by show List.Perm ([(0, -1), (-1, 0), (1, 0), (0, 1)] ++ [(-1, -1), (1, 1)]) N6; decide, by decide⟩
  · exact ⟨st8, by show List.Perm ([(0, -1), (-1, 0), (1, 0), (0, 1)] ++ [(-1, -1), (1, 1)] ++ [(-1, 1), (1, -1)]) N8; decide, by decide⟩
theorem opsL_length {L : List (Int × Int)} (hL : L.length ≤ 8) (live : List (Int × Int)) : (opsL L live).length ≤ 9 * live.length := by
  unfold opsL
  induction live with
  | nil => simp
  | cons p live ih =>
    rw [List.flatMap_cons, List.length_append, List.length_cons, List.length_map, List.length_map, List.length_cons]
    omega
theorem opsL_snoc (L live : List (Int × Int)) (p : Int × Int) : opsL L (live ++ [p]) = opsL L live ++ [(p, 0)] ++ (L.map fun d => sh d p).map fun c => (c, 1) := by
  unfold opsL
  rw [List.flatMap_append]
  simp
theorem lfill_is {S : DF} {k : Int} {L : List (Int × Int)} (es : S [.int k] = .ok (cells L) []) (l8 : L.length ≤ 8) (bs ss : List Int) (live : List (Int × Int)) (hl : live.length ≤ 1600) : ∃ s3 s4 s5, notOwn (some s3) = true ∧ forRun (gSet 3) (bNextS_2 S) (live.map cellP) [.val (ruleD k bs ss), .val (cells live), .own (.dicT false []), .emp, .emp, .emp, .emp] = .nx [.val (ruleD k bs ss), .val (cells live), .own (.dicT false (encE D.int (opsT (opsL L live)))), s3, s4, s5, .emp] := by
  obtain ⟨ρ', e, s3, s4, s5, h3, rfl⟩ := for_list (g := gSet 3) (body := (bNextS_2 S)) (e := cellP) (fun i ρ => ∃ s3 s4 s5, notOwn (some s3) = true ∧ ρ = [.val (ruleD k bs ss), .val (cells live), .own (.dicT false (encE D.int (opsT (opsL L (live.take i))))), s3, s4, s5, .emp]) (l := live) (ρ := [.val (ruleD k bs ss), .val (cells live), .own (.dicT false []), .emp, .emp, .emp, .emp]) ⟨_, _, _, rfl, rfl⟩ (fun i p ρ hi hρ => by
    obtain ⟨s3, s4, s5, _, rfl⟩ := hρ
    obtain ⟨x, y⟩ := p
    refine ⟨_, rfl, ?_⟩
    have l1 : i < live.length := (List.getElem?_eq_some_iff.mp hi).1
    have lb : (opsL L (live.take i)).length ≤ 9 * 1600 := by
      have := opsL_length l8 (live.take i)
      rw [List.length_take] at this
      omega
    obtain ⟨ρ', e, s4, s5, rfl⟩ := for_list (g := gSet 4) (body := pb_law_next_1) (e := cellP) (fun j ρ => ∃ s4 s5, ρ = [.val (ruleD k bs ss), .val (cells live), .own (.dicT false (encE D.int (opsT (opsL L (live.take i) ++ [((x, y), 0)] ++ ((L.take j).map fun d => sh d (x, y)).map fun c => (c, 1))))), .val (.tup [.int x, .int y]), s4, s5, .emp]) (l := L) (ρ := [.val (ruleD k bs ss), .val (cells live), .own (.dicT false (encE D.int (opsT (opsL L (live.take i) ++ [((x, y), 0)])))), .val (.tup [.int x, .int y]), s4, s5, .emp]) ⟨s4, s5, by simp⟩ (fun j d ρ hj hρ => by
      obtain ⟨s4, s5, rfl⟩ := hρ
      obtain ⟨u, v⟩ := d
      refine ⟨_, rfl, ?_⟩
      have l2 : j < L.length := (List.getElem?_eq_some_iff.mp hj).1
      generalize hO : opsL L (live.take i) ++ [((x, y), 0)] ++ ((L.take j).map fun d => sh d (x, y)).map (fun c => (c, (1 : Int))) = O
      have lO : O.length ≤ 20000 := by
        rw [← hO, List.length_append, List.length_append, List.length_map, List.length_map, List.length_take, List.length_cons, List.length_nil]
        omega
      have hz : (encE D.int (opsT O)).length < sizeLine := by
        rw [encE_len]
        exact szBl (Nat.le_trans (opsT_len O) lO)
      have hx : opsL L (live.take i) ++ [((x, y), 0)] ++ ((L.take (j + 1)).map fun d => sh d (x, y)).map (fun c => (c, (1 : Int))) = O ++ [((x + u, y + v), 1)] := by
        rw [take_snoc hj, List.map_append, List.map_append, ← List.append_assoc, hO]
        rfl
      rw [hx, opsT_snoc]
      unfold pb_law_next_1
      simp! [cells, cellP, hz, lk_int, pt_int]
      exact ⟨_, .inl rfl, _, _, rfl⟩)
    rw [List.take_length, ← opsL_snoc, ← take_snoc hi] at e
    have hz : (encE D.int (opsT (opsL L (live.take i)))).length < sizeLine := by
      rw [encE_len]
      exact szBl (Nat.le_trans (opsT_len _) (by omega))
    rw [opsT_snoc] at e
    unfold bNextS_2
    simp! [cells, ruleD, Int.add_zero] at e es ⊢
    simp! [cellP, hz, lk_int, pt_int, es, e]
    exact ⟨_, .inl rfl, _, _, _, rfl, rfl⟩)
  rw [List.take_length] at e
  exact ⟨_, _, _, h3, e⟩
theorem lalive_is (T S : D) (live : List (Int × Int)) (hl : live.length ≤ 1600) (U : Slot) (s3 s4 s5 : Slot) (h3 : notOwn (some s3) = true) : ∃ s3', notOwn (some s3') = true ∧ forRun (gSet 3) pb_law_next_3 (live.map cellP) [.val T, .val S, U, s3, s4, s5, .own (.dicT false [])] = .nx [.val T, .val S, U, s3', s4, s5, .own (.dicT false (encE D.bl (allT live)))] := by
  obtain ⟨ρ', e, s3', h3', rfl⟩ := for_list (g := gSet 3) (body := pb_law_next_3) (e := cellP) (fun i ρ => ∃ s3', notOwn (some s3') = true ∧ ρ = [.val T, .val S, U, s3', s4, s5, .own (.dicT false (encE D.bl (allT (live.take i))))]) (l := live) (ρ := [.val T, .val S, U, s3, s4, s5, .own (.dicT false [])]) ⟨_, h3, rfl⟩ (fun i p ρ hi hρ => by
    obtain ⟨s3, _, rfl⟩ := hρ
    obtain ⟨x, y⟩ := p
    refine ⟨_, rfl, ?_⟩
    have l1 : i < live.length := (List.getElem?_eq_some_iff.mp hi).1
    have hz : (encE D.bl (allT (live.take i))).length < sizeLine := by
      have := allT_len (live.take i)
      rw [List.length_take] at this
      rw [encE_len]
      exact szBl (by omega)
    rw [take_snoc hi, allT_snoc]
    unfold pb_law_next_3
    simp! [cellP, hz, pt_bl]
    exact ⟨_, .inl rfl, _, rfl, rfl⟩)
  rw [List.take_length] at e
  exact ⟨_, h3', e⟩
theorem dInt_bl (b : Bool) : dInt [.bl b] = some (.int (if b = true then 1 else 0)) := rfl
theorem nextS_is {S : DF} {k : Int} {L : List (Int × Int)} (es : S [.int k] = .ok (cells L) []) (hp : L.Perm (near k)) (l8 : L.length ≤ 8) {bs : List Int} (hq : 0 ∉ bs) (ss : List Int) (live : List (Int × Int)) (hl : live.length ≤ 1600) : fNextS S [ruleD k bs ss, cells live] = .ok (cells (nextP k bs ss live)) [] := by
  unfold fNextS bNextS
  obtain ⟨s3, s4, s5, h3, e1⟩ := lfill_is es l8 bs ss live hl
  obtain ⟨s3', h3', e2⟩ := lalive_is (ruleD k bs ss) (cells live) live hl (.own (.dicT false (encE D.int (opsT (opsL L live))))) s3 s4 s5 h3
  have hz1 : ((opsT (opsL L live)).map (·.1)).length ≤ 14400 := by
    have := opsL_len (k := k) l8 live
    rw [List.length_map]
    omega
  have hz2 : (((opsT (opsL L live)).map (·.1)).map cellP).length ≤ sizeLine := by
    rw [List.length_map]
    exact szB (by omega)
  have hz3 : ((((opsT (opsL L live)).map (·.1)).filter (cond k bs ss live)).map cellP).length ≤ sizeLine := by
    rw [List.length_map]
    exact szB (Nat.le_trans (List.length_filter_le _ _) (by omega))
  have hf := opsL_next hp hq ss live
  simp! [cells, ruleD] at e1 e2 ⊢
  simp! [e1, e2, keys_enc, hz2, h3']
  rw [lcFilt cellP (cond k bs ss live) id]
  · rw [List.map_id]
    simp! [hz3, sorted_cells, hf]
  · intro c hc
    obtain ⟨x, y⟩ := c
    have hv := opsL_lives hp live (x, y)
    obtain ⟨v, ev⟩ : ∃ v, lkA (opsT (opsL L live)) (x, y) = some v := Option.isSome_iff_exists.mp ((mem_keys _ _).mp hc)
    rw [ev] at hv
    have hv : v = ((livesP k live (x, y) : Nat) : Int) := hv
    have hl := lk_enc D.int (opsT (opsL L live)) (x, y)
    rw [ev] at hl
    have q : cond k bs ss live (x, y) = decide (((livesP k live (x, y) : Nat) : Int) ∈ if (x, y) ∈ live then ss else bs) := rfl
    rw [← hv] at q
    by_cases hm : (x, y) ∈ live
    · rw [if_pos hm] at q
      by_cases hs : v ∈ ss
      · rw [decide_eq_true hs] at q
        rw [if_pos q]
        simp! [cellP, lk_some, allT_lk, hm, dInt_bl, zgA, hl, hs, id_eq]
      · rw [decide_eq_false hs] at q
        rw [if_neg (by rw [q]; decide)]
        simp! [cellP, lk_some, allT_lk, hm, dInt_bl, zgA, hl, hs, id_eq]
    · rw [if_neg hm] at q
      by_cases hs : v ∈ bs
      · rw [decide_eq_true hs] at q
        rw [if_pos q]
        simp! [cellP, lk_some, allT_lk, hm, dInt_bl, zgA, hl, hs, id_eq]
      · rw [decide_eq_false hs] at q
        rw [if_neg (by rw [q]; decide)]
        simp! [cellP, lk_some, allT_lk, hm, dInt_bl, zgA, hl, hs, id_eq]
theorem law_next_is {k : Int} (hk : Kind k) {bs : List Int} (hq : 0 ∉ bs) (ss : List Int) (live : List (Int × Int)) (hl : live.length ≤ 1600) : p_law_next [ruleD k bs ss, cells live] = .ok (cells (nextP k bs ss live)) [] := by
  obtain ⟨es, hp, l8⟩ := lst_is hk
  exact nextS_is es hp l8 hq ss live hl
/-- the move by which one picture with cells is another one -/
def moveL (one other : List (Int × Int)) : Option (Int × Int) := match one, other with
  | p :: _, q :: _ => if one.map (sh (q.1 - p.1, q.2 - p.2)) = other then some (q.1 - p.1, q.2 - p.2) else none
  | _, _ => none
end G


set_option maxHeartbeats 4000000
namespace G
open PySem PySem.Spec PyProof.Rows L2

end G


set_option maxHeartbeats 4000000
namespace G
open PySem PySem.Spec PyProof.Rows L2

def intsL (lo : Int) (m : Nat) : List Int := (List.range m).map fun j : Nat => lo + (j : Int)
theorem intsL_mem {lo : Int} {m : Nat} {x : Int} (h : x ∈ intsL lo m) : lo ≤ x ∧ x < lo + m := by
  unfold intsL at h
  obtain ⟨j, hj, rfl⟩ := List.mem_map.mp h
  have := List.mem_range.mp hj
  omega
theorem intsL_take {lo : Int} {m i : Nat} (h : i < m) : (intsL lo m).take (i + 1) = (intsL lo m).take i ++ [lo + (i : Int)] := by
  refine take_snoc ?_
  unfold intsL
  rw [List.getElem?_map, List.getElem?_range h]
  rfl
theorem kind_ix {n : Nat} {p : D} (hp : PenOk n p) (hn : n + 2 < 2 ^ 60) : ∃ (m k : Int) (q : D), fDraw [p, .int 3] = .ok (.int m) [q] ∧ atI [D.int 4, .int 6, .int 8] m = some (.int k) ∧ Kind k ∧ PenOk (n + 1) q := by
  obtain ⟨m, p1, e1, a1, b1, h1⟩ := draw_ex hp (by omega) (m := 3) (by decide) (by decide)
  rcases (show m = 0 ∨ m = 1 ∨ m = 2 by omega) with rfl | rfl | rfl
  · exact ⟨0, 4, p1, e1, atI_0 _ _, by decide, h1⟩
  · exact ⟨1, 6, p1, e1, atI_1 _ _ _, by decide, h1⟩
  · exact ⟨2, 8, p1, e1, atI_2 _ _ _ _, by decide, h1⟩
end G


set_option maxHeartbeats 4000000
namespace G
open PySem PySem.Spec PyProof.Rows L2

/-- turn j is not without cells and no earlier one moved -/
def Quiet (f : Nat → List (Int × Int)) (j : Nat) : Prop := f j ≠ [] ∧ ∀ e, e < j → moveL (f e) (f j) = none
theorem nextP_len (k : Int) (bs ss : List Int) (live : List (Int × Int)) : (nextP k bs ss live).length ≤ 9 * live.length := by
  have h1 := cntT_len (imgsP k live)
  have h2 := imgsP_len k live
  have h3 := dd_le ((cntT (imgsP k live)).map (·.1) ++ live)
  have h4 : (nextP k bs ss live).length ≤ (ddS ((cntT (imgsP k live)).map (·.1) ++ live)).length := List.length_filter_le _ _
  unfold ddS at h4
  rw [sortE_length] at h4
  rw [List.length_append, List.length_map] at h3
  omega
/-- two places and a move -/
structure T3 where
  e : Int
  l : Int
  m : Int × Int
deriving DecidableEq
def t3D (t : T3) : D := .tup [.int t.e, .int t.l, .tup [.int t.m.1, .int t.m.2]]
instance : Enc T3 where
  enc := t3D
  py := fun t => .tuple [.int t.e, .int t.l, .tuple [.int t.m.1, .int t.m.2]]
  dp := 2
  to := fun _ => rfl
  lay := fun _ => rfl
  dep := fun _ => by simp only [PyData.depth, PyData.depthAll]; omega
  eqv := fun v w => by
    cases v; cases w
    simp [PyData.eqv, PyData.eqvAll, Prod.ext_iff]
end G


set_option maxHeartbeats 4000000
namespace G
open PySem PySem.Spec PyProof.Rows L2

end G


set_option maxHeartbeats 4000000
namespace G
open PySem PySem.Spec PyProof.Rows L2

section
variable {k : Int} {bs : List Int} (hq0 : 0 ∉ bs) {ss : List Int} {f : Nat → List (Int × Int)} (hf : ∀ j, f (j + 1) = nextP k bs ss (f j)) {L : Nat} (hq : ∀ j, j < L → Quiet f j)
include hq0 hf
include hq
end
end G


set_option maxHeartbeats 4000000
namespace G
open PySem PySem.Spec PyProof.Rows L2

end G


set_option maxHeartbeats 4000000
namespace G
open PySem PySem.Spec PyProof.Rows L2

/-- the first turning of some by which one picture is another one moved, and the move -/
def ledL (ts : List Q4) (one other : List (Int × Int)) : Option (Q4 × (Int × Int)) := match ts with
  | [] => none
  | t :: ts => match moveL (turnP t one) other with
    | some m => some (t, m)
    | none => ledL ts one other
def led (k : Int) (one other : List (Int × Int)) : Option (Q4 × (Int × Int)) := ledL (turns k) one other
end G


set_option maxHeartbeats 4000000
namespace G
open PySem PySem.Spec PyProof.Rows L2

def leads (w h : Nat) (one other : List (Int × Int)) (m : Int × Int) : Bool := one.all fun p => decide (onR w h (sh m p) ∈ other)
section
variable (w h : Nat) (k : Int) (bs ss : List Int) (live : List (Int × Int))
end
section
variable {w h : Nat} {W H : Int} (eW : (w : Int) = W) (eH : (h : Int) = H) (hw : 3 ≤ w ∧ w ≤ 40) (hh : 3 ≤ h ∧ h ≤ 40) {k : Int} (hk : Kind k) (bs ss : List Int) {live : List (Int × Int)} (hl : OnRing w h live)
include eW eH hw hh hk hl
end
end G


set_option maxHeartbeats 4000000
namespace G
open PySem PySem.Spec PyProof.Rows L2

def Stands (w h : Nat) (A : List (Int × Int)) : Prop := ∃ (l t : Int) (a b : Nat), Bx l t a b A ∧ 2 * a ≤ w ∧ a + 2 ≤ w ∧ 2 * b ≤ h ∧ b + 2 ≤ h
section
variable {w h : Nat} (hw : 0 < w) (hh : 0 < h) {k : Int} (hk : Kind k) {bs : List Int} (hq : 0 ∉ bs) (ss : List Int) {live : List (Int × Int)} (hp : Pic live) {T : Nat} (st : ∀ j, j ≤ T → Stands w h (afterP k bs ss live j))
include hw hh hk hq hp st
end
end G


namespace K57
open PySem PySem.Spec PyProof.Rows L2 G

def topS (i : Nat) : Stmt := PySem.Challenge.pw_cellships_k57_whole_no_smaller_parts.main.body.getD i (.Pass ⟨0, 0, 0, 0⟩)
abbrev s_is_near : Stmt := topS 1
theorem sc_is_near : FnScope (["kind", "dx", "dy"]) ["kind", "dx", "dy"] (defScope s_is_near) := ⟨rfl, rfl, rfl, by decide +kernel, rfl, by decide +kernel, by decide +kernel⟩
abbrev s_offsets : Stmt := topS 2
theorem sc_offsets : FnScope (["kind", "steps", "dx", "dy", "step"]) ["kind"] (defScope s_offsets) := ⟨rfl, rfl, rfl, by decide +kernel, rfl, by decide +kernel, by decide +kernel⟩
abbrev s_around : Stmt := topS 3
theorem sc_around : FnScope (["$", "found", "dx", "dy"]) [] (defScope s_around) := ⟨rfl, rfl, rfl, by decide +kernel, rfl, by decide +kernel, by decide +kernel⟩
abbrev s_is_quiet : Stmt := topS 8
theorem sc_is_quiet : FnScope (["told"]) ["told"] (defScope s_is_quiet) := ⟨rfl, rfl, rfl, by decide +kernel, rfl, by decide +kernel, by decide +kernel⟩
abbrev s_ask_quiet : Stmt := topS 9
theorem sc_ask_quiet : FnScope (["told"]) ["told"] (defScope s_ask_quiet) := ⟨rfl, rfl, rfl, by decide +kernel, rfl, by decide +kernel, by decide +kernel⟩
abbrev s_comes : Stmt := topS 10
theorem sc_comes : FnScope (["told", "alive", "count"]) ["told", "alive", "count"] (defScope s_comes) := ⟨rfl, rfl, rfl, by decide +kernel, rfl, by decide +kernel, by decide +kernel⟩
abbrev s_counts : Stmt := topS 12
theorem sc_counts : FnScope (["kind", "live", "near", "found", "x", "y", "dx", "dy", "cell"]) ["kind", "live"] (defScope s_counts) := ⟨rfl, rfl, rfl, by decide +kernel, rfl, by decide +kernel, by decide +kernel⟩
abbrev s_next_turn : Stmt := topS 13
theorem sc_next_turn : FnScope (["rule", "live", "near", "alive", "cell", "some"]) ["rule", "live"] (defScope s_next_turn) := ⟨rfl, rfl, rfl, by decide +kernel, rfl, by decide +kernel, by decide +kernel⟩
abbrev s_hangs_on : Stmt := topS 15
theorem sc_hangs_on : FnScope (["kind", "cell", "dx", "dy"]) ["kind", "cell"] (defScope s_hangs_on) := ⟨rfl, rfl, rfl, by decide +kernel, rfl, by decide +kernel, by decide +kernel⟩
abbrev s_Groups___init : Stmt := inClass (topS 16) 0
theorem sc_Groups___init : FnScope (["self", "told", "live", "number", "cell"]) ["self", "told", "live"] (defScope s_Groups___init) := ⟨rfl, rfl, rfl, by decide +kernel, rfl, by decide +kernel, by decide +kernel⟩
abbrev s_Groups_near : Stmt := inClass (topS 16) 1
theorem sc_Groups_near : FnScope (["self", "cell", "around", "dx", "dy", "one"]) ["self", "cell"] (defScope s_Groups_near) := ⟨rfl, rfl, rfl, by decide +kernel, rfl, by decide +kernel, by decide +kernel⟩
abbrev s_Groups_crowded : Stmt := inClass (topS 16) 2
theorem sc_Groups_crowded : FnScope (["self", "first", "found", "cell", "dx", "dy", "one"]) ["self"] (defScope s_Groups_crowded) := ⟨rfl, rfl, rfl, by decide +kernel, rfl, by decide +kernel, by decide +kernel⟩
abbrev s_Groups_merged : Stmt := inClass (topS 16) 3
theorem sc_Groups_merged : FnScope (["self", "cell", "some", "one"]) ["self", "cell"] (defScope s_Groups_merged) := ⟨rfl, rfl, rfl, by decide +kernel, rfl, by decide +kernel, by decide +kernel⟩
abbrev s_Groups_go_on : Stmt := inClass (topS 16) 4
theorem sc_Groups_go_on : FnScope (["self", "later", "cell"]) ["self"] (defScope s_Groups_go_on) := ⟨rfl, rfl, rfl, by decide +kernel, rfl, by decide +kernel, by decide +kernel⟩
abbrev s_Groups_parts : Stmt := inClass (topS 16) 5
theorem sc_Groups_parts : FnScope (["self", "found", "cell"]) ["self"] (defScope s_Groups_parts) := ⟨rfl, rfl, rfl, by decide +kernel, rfl, by decide +kernel, by decide +kernel⟩
abbrev s_parts : Stmt := topS 17
theorem sc_parts : FnScope (["told", "live", "many", "groups", "joins", "turn", "cell"]) ["told", "live", "many"] (defScope s_parts) := ⟨rfl, rfl, rfl, by decide +kernel, rfl, by decide +kernel, by decide +kernel⟩
abbrev s_law_pen : Stmt := topS 19
theorem sc_law_pen : FnScope (["_law_script", "_law_k", "_law_cell"]) ["_law_script", "_law_k"] (defScope s_law_pen) := ⟨rfl, rfl, rfl, by decide +kernel, rfl, by decide +kernel, by decide +kernel⟩
abbrev s_law_draw : Stmt := topS 20
theorem sc_law_draw : FnScope (["_law_pen_here", "_law_many", "_law_drawn", "_law_number_here"]) ["_law_pen_here", "_law_many"] (defScope s_law_draw) := ⟨rfl, rfl, rfl, by decide +kernel, rfl, by decide +kernel, by decide +kernel⟩
abbrev s_law_number : Stmt := topS 21
theorem sc_law_number : FnScope (["_law_pen_here", "_law_way", "_law_far"]) ["_law_pen_here"] (defScope s_law_number) := ⟨rfl, rfl, rfl, by decide +kernel, rfl, by decide +kernel, by decide +kernel⟩
abbrev s_law_rule : Stmt := topS 22
theorem sc_law_rule : FnScope (["_law_pen_here", "_law_kind", "_law_least", "_law_born", "_law_count"]) ["_law_pen_here"] (defScope s_law_rule) := ⟨rfl, rfl, rfl, by decide +kernel, rfl, by decide +kernel, by decide +kernel⟩
abbrev s_law_picture : Stmt := topS 23
theorem sc_law_picture : FnScope (["_law_pen_here", "_law_far", "_law_cells", "_law_k", "_law_x", "_law_y", "_law_j"]) ["_law_pen_here"] (defScope s_law_picture) := ⟨rfl, rfl, rfl, by decide +kernel, rfl, by decide +kernel, by decide +kernel⟩
abbrev s_law_near : Stmt := topS 24
theorem sc_law_near : FnScope (["_law_kind", "_law_cell", "_law_found", "_law_dx", "_law_dy"]) ["_law_kind", "_law_cell"] (defScope s_law_near) := ⟨rfl, rfl, rfl, by decide +kernel, rfl, by decide +kernel, by decide +kernel⟩
abbrev s_law_next : Stmt := topS 25
theorem sc_law_next : FnScope (["_law_by", "_law_live", "_law_here", "_law_sums", "_law_cell", "_law_one"]) ["_law_by", "_law_live"] (defScope s_law_next) := ⟨rfl, rfl, rfl, by decide +kernel, rfl, by decide +kernel, by decide +kernel⟩
abbrev s_law_touch : Stmt := topS 26
theorem sc_law_touch : FnScope (["_law_kind", "_law_one", "_law_other", "_law_near_here", "_law_cell", "_law_step"]) ["_law_kind", "_law_one", "_law_other"] (defScope s_law_touch) := ⟨rfl, rfl, rfl, by decide +kernel, rfl, by decide +kernel, by decide +kernel⟩
abbrev s_law_meet : Stmt := topS 27
theorem sc_law_meet : FnScope (["_law_by", "_law_one", "_law_other", "_law_many", "_law_turn"]) ["_law_by", "_law_one", "_law_other", "_law_many"] (defScope s_law_meet) := ⟨rfl, rfl, rfl, by decide +kernel, rfl, by decide +kernel, by decide +kernel⟩
abbrev s_law_cut : Stmt := topS 28
theorem sc_law_cut : FnScope (["_law_part", "_law_number_here", "_law_one", "_law_other", "_law_cell"]) ["_law_part", "_law_number_here"] (defScope s_law_cut) := ⟨rfl, rfl, rfl, by decide +kernel, rfl, by decide +kernel, by decide +kernel⟩
abbrev s_law_holds_together : Stmt := topS 29
theorem sc_law_holds_together : FnScope (["_law_pen_here", "_law_by", "_law_part", "_law_many", "_law_ways", "_law_k", "_law_number_here", "_law_one", "_law_other"]) ["_law_pen_here", "_law_by", "_law_part", "_law_many"] (defScope s_law_holds_together) := ⟨rfl, rfl, rfl, by decide +kernel, rfl, by decide +kernel, by decide +kernel⟩
abbrev s_law_together : Stmt := topS 30
theorem sc_law_together : FnScope (["_law_some", "_law_found", "_law_part"]) ["_law_some"] (defScope s_law_together) := ⟨rfl, rfl, rfl, by decide +kernel, rfl, by decide +kernel, by decide +kernel⟩
abbrev s_law_long : Stmt := topS 31
theorem sc_law_long : FnScope (["_law_pen_here", "_law_by", "_law_live", "_law_many", "_law_most", "_law_shown"]) ["_law_pen_here", "_law_by", "_law_live", "_law_many"] (defScope s_law_long) := ⟨rfl, rfl, rfl, by decide +kernel, rfl, by decide +kernel, by decide +kernel⟩
abbrev s_law : Stmt := topS 32
theorem sc_law : FnScope (["_law_script", "_law_k", "_law_pen_here", "_law_by", "_law_live", "_law_many", "_law_some", "_law_at"]) ["_law_script"] (defScope s_law) := ⟨rfl, rfl, rfl, by decide +kernel, rfl, by decide +kernel, by decide +kernel⟩
/-! is_near -/
noncomputable def b_is_near : XS := (xRet (xOrV (xOp2 dEq (xVar 0) (xC (.int 8))) (xOrV (xOp2 dEq (xVar 1) (xC (.int 0))) (xOrV (xOp2 dEq (xVar 2) (xC (.int 0))) (xAndV (xOp2 dEq (xVar 0) (xC (.int 6))) (xOp2 dEq (xVar 1) (xVar 2)))))))
noncomputable def f_is_near : DF := runP [false, false, false] 3 false b_is_near
/-! around -/
noncomputable def b_around_1 : XS := (xAppend 1 (xOpL dTup (xCons (xVar 2) (xCons (xVar 3) xNil))))
noncomputable def b_around_2 : XS := (xFor (xItR2 (xOp1 dNeg (xC (.int 1))) (xC (.int 2))) (gSet 3) b_around_1)
noncomputable def b_around : XS := (xSeq (xSetO 1 (xOpL dLst xNil))
    (xSeq (xFor (xItR2 (xOp1 dNeg (xC (.int 1))) (xC (.int 2))) (gSet 2) b_around_2)
    (xRet (xTake 1))))
noncomputable def f_around : DF := runP [] 4 true b_around
/-! offsets -/
noncomputable def b_offsets : XS := (xSeq (xSet 1 (xLC (xIt (xCall f_around xNil)) (gsTup 2 (gsCons (gSet 2) (gsCons (gSet 3) gsNil))) (xTest (xCall f_is_near (xCons (xVar 0) (xCons (xVar 2) (xCons (xVar 3) xNil))))) (xOpL dTup (xCons (xVar 2) (xCons (xVar 3) xNil))) [2, 3]))
    (xRet (xLC (xIt (xVar 1)) (gSet 4) (xTest (xOp2 dNe (xVar 4) (xOpL dTup (xCons (xC (.int 0)) (xCons (xC (.int 0)) xNil))))) (xVar 4) [4])))
noncomputable def f_offsets : DF := runP [false] 5 true b_offsets
/-! is_quiet -/
noncomputable def b_is_quiet : XS := (xRet (xOp2 dNotInX (xC (.int 0)) (xOp2 dIx (xVar 0) (xC (.int 1)))))
noncomputable def f_is_quiet : DF := runP [false] 1 false b_is_quiet
/-! ask_quiet -/
noncomputable def b_ask_quiet : XS := (xIfS (xNot (xTest (xCall f_is_quiet (xCons (xVar 0) xNil))))
    (xRaise "Loud")
    xNext)
noncomputable def f_ask_quiet : DF := runP [false] 1 false b_ask_quiet
/-! comes -/
noncomputable def b_comes : XS := (xSeq (xIfS (xTest (xVar 1))
    (xRet (xOp2 dInX (xVar 2) (xOp2 dIx (xVar 0) (xC (.int 2)))))
    xNext)
    (xRet (xOp2 dInX (xVar 2) (xOp2 dIx (xVar 0) (xC (.int 1))))))
noncomputable def f_comes : DF := runP [false, false, false] 3 false b_comes
/-! counts -/
noncomputable def b_counts_1 : XS := (xSeq (xSet 8 (xOpL dTup (xCons (xOp2 dAdd (xVar 4) (xVar 6)) (xCons (xOp2 dAdd (xVar 5) (xVar 7)) xNil))))
    (xDPut 3 (xVar 8) (xOp2 dAdd (xDGet2 3 (xVar 8) (xC (.int 0))) (xC (.int 1)))))
noncomputable def b_counts_2 : XS := (xFor (xIt (xVar 2)) (gsTup 2 (gsCons (gSet 6) (gsCons (gSet 7) gsNil))) b_counts_1)
noncomputable def b_counts : XS := (xSeq (xSet 2 (xCall f_offsets (xCons (xVar 0) xNil)))
    (xSeq (xSetO 3 (xC (.dicT false [])))
    (xSeq (xFor (xItO 1) (gsTup 2 (gsCons (gSet 4) (gsCons (gSet 5) gsNil))) b_counts_2)
    (xRet (xTake 3)))))
noncomputable def f_counts : DF := runP [false, true] 9 true b_counts
/-! next_turn -/
noncomputable def b_next_turn_1 : XS := (xDPut 3 (xVar 4) (xC (.bl true)))
noncomputable def b_next_turn : XS := (xSeq (xDrop (xCall f_ask_quiet (xCons (xVar 0) xNil)))
    (xSeq (xSet 2 (xCall f_counts (xCons (xOp2 dIx (xVar 0) (xC (.int 0))) (xConsR (xVar 1) xNil))))
    (xSeq (xSetO 3 (xC (.dicT false [])))
    (xSeq (xFor (xIt (xVar 1)) (gSet 4) b_next_turn_1)
    (xSeq (xSet 5 (xOp1 dSSG (xOp2 dAdd (xKeysV (xVar 2)) (xVar 1))))
    (xRet (xLC (xIt (xVar 5)) (gSet 4) (xTest (xCall f_comes (xCons (xVar 0) (xCons (xCmpO dInX (xVar 4) 3) (xCons (xDGetV (xVar 2) (xVar 4) (xC (.int 0))) xNil))))) (xVar 4) [4])))))))
noncomputable def f_next_turn : DF := runP [false, false] 6 true b_next_turn
/-! hangs_on -/
noncomputable def b_hangs_on : XS := (xRet (xOpL dSorted (xCons (xOp2 dAdd (xOpL dLst (xCons (xVar 1) xNil)) (xLC (xIt (xCall f_offsets (xCons (xVar 0) xNil))) (gsTup 2 (gsCons (gSet 2) (gsCons (gSet 3) gsNil))) xYes (xOpL dTup (xCons (xOp2 dAdd (xOp2 dIx (xVar 1) (xC (.int 0))) (xVar 2)) (xCons (xOp2 dAdd (xOp2 dIx (xVar 1) (xC (.int 1))) (xVar 3)) xNil))) [2, 3])) xNil)))
noncomputable def f_hangs_on : DF := runP [false, false] 4 true b_hangs_on
/-! Groups.__init__ -/
noncomputable def m_Groups___init_1 : RS := (rSeq (rDPut 0 "Groups" "starts" (xVar 4) (xVar 3))
    (rSeq (rDPut 0 "Groups" "alive" (xVar 4) (xVar 3))
    rNil))
noncomputable def b_Groups___init : RS := rArg 2 (rSeq (rFSet 0 "Groups" "told" (xVar 1))
    (rSeq (rFSet 0 "Groups" "steps" (xCall f_hangs_on (xCons (xOp2 dIx (xVar 1) (xC (.int 0))) (xCons (xOpL dTup (xCons (xC (.int 0)) (xCons (xC (.int 0)) xNil))) xNil))))
    (rSeq (rFNew "Groups" "starts")
    (rSeq (rFNew "Groups" "alive")
    (rSeq (rFor 0 (rItE 0 (xVar 2)) (gsTup 2 (gsCons (gSet 3) (gsCons (gSet 4) gsNil))) m_Groups___init_1)
    rNil)))))
noncomputable def f_Groups___init : MF := runM 5 b_Groups___init
/-! Groups.near -/
noncomputable def b_Groups_near : XS := (xSeq (xSet 2 (xLC (xIt (xOp1 (dFld "Groups" "steps") (xVar 0))) (gsTup 2 (gsCons (gSet 3) (gsCons (gSet 4) gsNil))) xYes (xOpL dTup (xCons (xOp2 dAdd (xOp2 dIx (xVar 1) (xC (.int 0))) (xVar 3)) (xCons (xOp2 dAdd (xOp2 dIx (xVar 1) (xC (.int 1))) (xVar 4)) xNil))) [3, 4]))
    (xRet (xOp1 dSSI (xLC (xIt (xVar 2)) (gSet 5) (xTest (xOp2 dInX (xVar 5) (xOp1 (dFld "Groups" "alive") (xVar 0)))) (xDIxV (xOp1 (dFld "Groups" "alive") (xVar 0)) (xVar 5)) [5]))))
noncomputable def f_Groups_near : DF := runP [false, false] 6 true b_Groups_near
/-! Groups.crowded -/
noncomputable def b_Groups_crowded_1 : XS := (xSeq (xSet 6 (xOpL dTup (xCons (xOp2 dAdd (xOp2 dIx (xVar 3) (xC (.int 0))) (xVar 4)) (xCons (xOp2 dAdd (xOp2 dIx (xVar 3) (xC (.int 1))) (xVar 5)) xNil))))
    (xIfS (xTest (xOp2 dNe (xDSetd 1 (xVar 6) (xDIxV (xOp1 (dFld "Groups" "alive") (xVar 0)) (xVar 3))) (xDIxV (xOp1 (dFld "Groups" "alive") (xVar 0)) (xVar 3))))
    (xDPut 2 (xVar 6) (xC (.bl true)))
    xNext))
noncomputable def b_Groups_crowded_2 : XS := (xFor (xIt (xOp1 (dFld "Groups" "steps") (xVar 0))) (gsTup 2 (gsCons (gSet 4) (gsCons (gSet 5) gsNil))) b_Groups_crowded_1)
noncomputable def b_Groups_crowded : XS := (xSeq (xSetO 1 (xC (.dicT false [])))
    (xSeq (xSetO 2 (xC (.dicT false [])))
    (xSeq (xFor (xItKV (xOp1 (dFld "Groups" "alive") (xVar 0))) (gSet 3) b_Groups_crowded_2)
    (xRet (xSortDO 2)))))
noncomputable def f_Groups_crowded : DF := runP [false] 7 true b_Groups_crowded
/-! Groups.merged -/
noncomputable def m_Groups_merged_1 : RS := (rSeq (rIf 0 (xTest (xOp2 dInX (xDIxV (xOp1 (dFld "Groups" "starts") (xVar 0)) (xVar 3)) (xVar 2)))
    (rSeq (rDPut 0 "Groups" "starts" (xVar 3) (xOp2 dIx (xVar 2) (xC (.int 0))))
    rNil)
    rNil)
    rNil)
noncomputable def m_Groups_merged_2 : RS := (rSeq (rIf 0 (xTest (xOp2 dInX (xDIxV (xOp1 (dFld "Groups" "alive") (xVar 0)) (xVar 3)) (xVar 2)))
    (rSeq (rDPut 0 "Groups" "alive" (xVar 3) (xOp2 dIx (xVar 2) (xC (.int 0))))
    rNil)
    rNil)
    rNil)
noncomputable def b_Groups_merged : RS := rArg 1 (rSeq (rSet 0 2 (xMeth "Groups" "near" f_Groups_near (xVar 0) (xCons (xVar 1) xNil)))
    (rSeq (rIf 0 (xTest (xOp2 dLt (xOpL dLen (xCons (xVar 2) xNil)) (xC (.int 2))))
    (rSeq (rRet 0 (xC (.bl false)))
    rNil)
    rNil)
    (rSeq (rFor 0 (rItL 0 (xKeysV (xOp1 (dFld "Groups" "starts") (xVar 0)))) (gSet 3) m_Groups_merged_1)
    (rSeq (rFor 0 (rItL 0 (xKeysV (xOp1 (dFld "Groups" "alive") (xVar 0)))) (gSet 3) m_Groups_merged_2)
    (rSeq (rRet 0 (xC (.bl true)))
    rNil)))))
noncomputable def f_Groups_merged : MF := runM 4 b_Groups_merged
/-! Groups.go_on -/
noncomputable def m_Groups_go_on_1 : RS := (rSeq (rLPut 0 1 (xVar 2) (xOp2 dIx (xMeth "Groups" "near" f_Groups_near (xVar 0) (xCons (xVar 2) xNil)) (xC (.int 0))))
    rNil)
noncomputable def b_Groups_go_on : RS := rArg 0 (rSeq (rOld 0 (xSetO 1 (xC (.dicT false []))))
    (rSeq (rFor 0 (rItL 0 (xCall f_next_turn (xCons (xOp1 (dFld "Groups" "told") (xVar 0)) (xCons (xSortDV (xOp1 (dFld "Groups" "alive") (xVar 0))) xNil)))) (gSet 2) m_Groups_go_on_1)
    (rSeq (rFTake 0 1 "Groups" "alive")
    rNil)))
noncomputable def f_Groups_go_on : MF := runM 3 b_Groups_go_on
/-! Groups.parts -/
noncomputable def b_Groups_parts : XS := (xGroup 1 (xSortDV (xOp1 (dFld "Groups" "starts") (xVar 0))) (gSet 2) (xDIxV (xOp1 (dFld "Groups" "starts") (xVar 0)) (xVar 2)) (xVar 2))
noncomputable def f_Groups_parts : DF := runP [false] 3 false b_Groups_parts
/-! parts -/
noncomputable def m_parts_1 : RS := (rSeq (rIfM 3 "Groups" "merged" f_Groups_merged (xCons (xVar 6) xNil)
    (rSeq (rOld 3 (xAppend 4 (xOpL dTup (xCons (xVar 5) (xCons (xVar 6) xNil)))))
    rNil)
    rNil)
    rNil)
noncomputable def m_parts_2 : RS := (rSeq (rFor 3 (rItLk 3 (xMeth "Groups" "crowded" f_Groups_crowded (xVar 3) xNil)) (gSet 6) m_parts_1)
    (rSeq (rCall 3 "Groups" "go_on" f_Groups_go_on xNil)
    rNil))
noncomputable def m_parts_3 : RS := (rSeq (rOld 3 (xSetO 4 (xOpL dLst xNil)))
    (rSeq (rFor 3 (rItR1 3 (xVar 2)) (gSet 5) m_parts_2)
    (rSeq (rRet 3 (xOpL dTup (xCons (xMeth "Groups" "parts" f_Groups_parts (xVar 3) xNil) (xCons (xTake 4) xNil))))
    rNil)))
noncomputable def b_parts : XS := (xSeq (xDrop (xCall f_ask_quiet (xCons (xVar 0) xNil)))
    (xRegM 3 "Groups" f_Groups___init (xCons (xVar 0) (xCons (xVar 1) xNil)) m_parts_3))
noncomputable def f_parts : DF := runP [false, false, false] 7 false b_parts
/-! _law_pen -/
noncomputable def b_law_pen : XS := (xSeq (xSet 2 (xOp2 dAdd (xOp2 dMul (xC (.int 7919)) (xVar 1)) (xC (.int 5))))
    (xSeq (xIfS (xTest (xOp2 dLt (xVar 1) (xOpL dLen (xCons (xVar 0) xNil))))
    (xSet 2 (xOp2 dIx (xVar 0) (xVar 1)))
    (xIfS (xTest (xOp2 (dCmp fun i j => decide (j < i)) (xOpL dLen (xCons (xVar 0) xNil)) (xC (.int 0))))
    (xSet 2 (xOp2 dAdd (xOp2 dMod (xOp2 dIx (xVar 0) (xOp2 dMod (xVar 1) (xOpL dLen (xCons (xVar 0) xNil)))) (xC (.int 2147483629))) (xOp2 dMul (xC (.int 48271)) (xVar 1))))
    xNext))
    (xSeq (xIfS (xTest (xOp2 (dCmp fun i j => decide (j ≤ i)) (xVar 2) (xOp2 dPow (xC (.int 10)) (xC (.int 18)))))
    (xRet (xOpL dLst (xCons (xOp2 dSub (xVar 2) (xOp2 dPow (xC (.int 10)) (xC (.int 18)))) (xCons (xOp2 dMod (xVar 2) (xC (.int 2147483587))) (xCons (xC (.int 0)) xNil)))))
    xNext)
    (xRet (xOpL dLst (xCons (xC (.int 0)) (xCons (xOp2 dMod (xVar 2) (xC (.int 2147483587))) (xCons (xC (.int 0)) xNil))))))))
noncomputable def f_law_pen : DF := runP [false, false] 3 true b_law_pen
/-! _law_draw -/
noncomputable def b_law_draw : XS := (xSeq (xSetIx 0 (xC (.int 2)) (xOp2 dAdd (xIxO 0 (xC (.int 2))) (xC (.int 1))))
    (xSeq (xIfS (xTest (xOp2 (dCmp fun i j => decide (j < i)) (xIxO 0 (xC (.int 0))) (xC (.int 0))))
    (xSeq (xSet 2 (xOp2 dMod (xIxO 0 (xC (.int 0))) (xVar 1)))
    (xSeq (xSetIx 0 (xC (.int 0)) (xOp2 dDiv (xIxO 0 (xC (.int 0))) (xVar 1)))
    (xRet (xVar 2))))
    xNext)
    (xSeq (xSet 3 (xOp2 dMod (xOp2 dAdd (xOp2 dAdd (xIxO 0 (xC (.int 1))) (xOp2 dMul (xC (.int 48271)) (xIxO 0 (xC (.int 2))))) (xC (.int 11))) (xC (.int 2147483629))))
    (xSeq (xSet 3 (xOp2 dAdd (xOp2 dMod (xOp2 dMul (xVar 3) (xVar 3)) (xC (.int 2147483587))) (xOp2 dMul (xC (.int 7919)) (xIxO 0 (xC (.int 2))))))
    (xSeq (xSet 3 (xOp2 dMod (xOp2 dMul (xVar 3) (xVar 3)) (xC (.int 2147483629))))
    (xRet (xOp2 dMod (xOp2 dDiv (xVar 3) (xC (.int 64))) (xVar 1))))))))
noncomputable def f_law_draw : DF := runB [false] 4 false b_law_draw
/-! _law_number -/
noncomputable def b_law_number : XS := (xSeq (xSet 1 (xCallB f_law_draw 0 (xCons (xC (.int 12)) xNil)))
    (xSeq (xIfS (xTest (xOp2 dLt (xVar 1) (xC (.int 9))))
    (xRet (xOp2 dSub (xCallB f_law_draw 0 (xCons (xC (.int 9)) xNil)) (xC (.int 4))))
    xNext)
    (xSeq (xIfS (xTest (xOp2 dEq (xVar 1) (xC (.int 9))))
    (xRet (xOp2 dSub (xCallB f_law_draw 0 (xCons (xOp2 dPow (xC (.int 10)) (xC (.int 9))) xNil)) (xOp2 dMul (xC (.int 5)) (xOp2 dPow (xC (.int 10)) (xC (.int 8))))))
    xNext)
    (xSeq (xSet 2 (xOp2 dSub (xOp2 dIx (xOpL dLst (xCons (xOp2 dPow (xC (.int 10)) (xC (.int 40))) (xCons (xOp2 dSub (xOp2 dPow (xC (.int 10)) (xC (.int 60))) (xC (.int 100))) xNil))) (xOp2 dSub (xVar 1) (xC (.int 10)))) (xCallB f_law_draw 0 (xCons (xC (.int 3)) xNil))))
    (xRet (xOp2 dMul (xVar 2) (xOp2 dSub (xC (.int 1)) (xOp2 dMul (xC (.int 2)) (xCallB f_law_draw 0 (xCons (xC (.int 2)) xNil))))))))))
noncomputable def f_law_number : DF := runB [] 3 false b_law_number
/-! _law_rule -/
noncomputable def b_law_rule : XS := (xSeq (xSet 1 (xOp2 dIx (xOpL dLst (xCons (xC (.int 4)) (xCons (xC (.int 6)) (xCons (xC (.int 8)) xNil)))) (xCallB f_law_draw 0 (xCons (xC (.int 3)) xNil))))
    (xSeq (xIfS (xTest (xOp2 dEq (xCallB f_law_draw 0 (xCons (xC (.int 2)) xNil)) (xC (.int 0))))
    (xSeq (xSet 2 (xOp2 dIx (xOp2 dIx (xOpL dLst (xCons (xOpL dLst (xCons (xC (.int 1)) (xCons (xC (.int 2)) xNil))) (xCons (xOpL dLst (xCons (xC (.int 2)) (xCons (xC (.int 2)) xNil))) (xCons (xOpL dLst (xCons (xC (.int 2)) (xCons (xC (.int 3)) xNil))) xNil)))) (xOp2 dSub (xOp2 dDiv (xVar 1) (xC (.int 2))) (xC (.int 2)))) (xCallB f_law_draw 0 (xCons (xC (.int 2)) xNil))))
    (xSeq (xSet 3 (xOp2 dAdd (xOpL dLst (xCons (xVar 2) xNil)) (xLC (xItR2 (xOp2 dAdd (xVar 2) (xC (.int 1))) (xOp2 dAdd (xVar 1) (xC (.int 1)))) (gSet 4) (xTest (xOp2 dEq (xCallB f_law_draw 0 (xCons (xC (.int 6)) xNil)) (xC (.int 0)))) (xVar 4) [4])))
    (xRet (xOpL dTup (xCons (xVar 1) (xCons (xOpL dTuple (xCons (xVar 3) xNil)) (xCons (xOpL dTuple (xCons (xLC (xItR1 (xOp2 dAdd (xVar 1) (xC (.int 1)))) (gSet 4) (xTest (xOp2 (dCmp fun i j => decide (j < i)) (xCallB f_law_draw 0 (xCons (xC (.int 3)) xNil)) (xC (.int 0)))) (xVar 4) [4]) xNil)) xNil)))))))
    xNext)
    (xSeq (xSet 3 (xLC (xItR2 (xC (.int 1)) (xOp2 dAdd (xVar 1) (xC (.int 1)))) (gSet 4) (xTest (xOp2 dEq (xCallB f_law_draw 0 (xCons (xC (.int 2)) xNil)) (xC (.int 1)))) (xVar 4) [4]))
    (xRet (xOpL dTup (xCons (xVar 1) (xCons (xOpL dTuple (xCons (xVar 3) xNil)) (xCons (xOpL dTuple (xCons (xLC (xItR1 (xOp2 dAdd (xVar 1) (xC (.int 1)))) (gSet 4) (xTest (xOp2 dEq (xCallB f_law_draw 0 (xCons (xC (.int 2)) xNil)) (xC (.int 1)))) (xVar 4) [4]) xNil)) xNil))))))))
noncomputable def f_law_rule : DF := runB [] 5 false b_law_rule
/-! _law_picture -/
noncomputable def b_law_picture_1 : XS := (xAppend 2 (xOpL dTup (xCons (xOp2 dAdd (xVar 4) (xCallB f_law_draw 0 (xCons (xC (.int 3)) xNil))) (xCons (xOp2 dAdd (xVar 5) (xCallB f_law_draw 0 (xCons (xC (.int 3)) xNil))) xNil))))
noncomputable def b_law_picture_2 : XS := (xSeq (xSet 4 (xOp2 dAdd (xOp2 dIx (xVar 1) (xC (.int 0))) (xCallB f_law_draw 0 (xCons (xC (.int 8)) xNil))))
    (xSeq (xSet 5 (xOp2 dAdd (xOp2 dIx (xVar 1) (xC (.int 1))) (xCallB f_law_draw 0 (xCons (xC (.int 5)) xNil))))
    (xFor (xItR1 (xOp2 dAdd (xC (.int 1)) (xCallB f_law_draw 0 (xCons (xC (.int 3)) xNil)))) (gSet 6) b_law_picture_1)))
noncomputable def b_law_picture : XS := (xSeq (xSet 1 (xOpL dTup (xCons (xC (.int 0)) (xCons (xC (.int 0)) xNil))))
    (xSeq (xIfS (xTest (xOp2 dEq (xCallB f_law_draw 0 (xCons (xC (.int 6)) xNil)) (xC (.int 0))))
    (xSet 1 (xOpL dTup (xCons (xCallB f_law_number 0 xNil) (xCons (xCallB f_law_number 0 xNil) xNil))))
    xNext)
    (xSeq (xSetO 2 (xOpL dLst xNil))
    (xSeq (xFor (xItR1 (xOp2 dIx (xOpL dLst (xCons (xC (.int 2)) (xCons (xC (.int 3)) (xCons (xC (.int 1)) (xCons (xC (.int 2)) (xCons (xC (.int 3)) (xCons (xC (.int 0)) xNil))))))) (xCallB f_law_draw 0 (xCons (xC (.int 6)) xNil)))) (gSet 3) b_law_picture_2)
    (xRet (xOp1 dSSG (xTake 2)))))))
noncomputable def f_law_picture : DF := runB [] 7 true b_law_picture
/-! _law_near -/
noncomputable def b_law_near_1 : XS := (xIfS (xOr (xTest (xOp2 dEq (xVar 0) (xC (.int 8)))) (xOr (xTest (xOp2 dEq (xOp2 dMul (xVar 3) (xVar 4)) (xC (.int 0)))) (xAnd (xTest (xOp2 dEq (xVar 0) (xC (.int 6)))) (xTest (xOp2 dEq (xVar 3) (xVar 4))))))
    (xAppend 2 (xOpL dTup (xCons (xOp2 dAdd (xOp2 dIx (xVar 1) (xC (.int 0))) (xVar 3)) (xCons (xOp2 dAdd (xOp2 dIx (xVar 1) (xC (.int 1))) (xVar 4)) xNil))))
    xNext)
noncomputable def b_law_near_2 : XS := (xFor (xIt (xOpL dTup (xCons (xOp1 dNeg (xC (.int 1))) (xCons (xC (.int 0)) (xCons (xC (.int 1)) xNil))))) (gSet 4) b_law_near_1)
noncomputable def b_law_near : XS := (xSeq (xSetO 2 (xOpL dLst xNil))
    (xSeq (xFor (xIt (xOpL dTup (xCons (xOp1 dNeg (xC (.int 1))) (xCons (xC (.int 0)) (xCons (xC (.int 1)) xNil))))) (gSet 3) b_law_near_2)
    (xRet (xTake 2))))
noncomputable def f_law_near : DF := runP [false, false] 5 true b_law_near
/-! _law_next -/
noncomputable def b_law_next_1 : XS := (xDPut 3 (xVar 5) (xOp2 dAdd (xDGet2 3 (xVar 5) (xC (.int 0))) (xOpL dInt (xCons (xOp2 dNe (xVar 5) (xVar 4)) xNil))))
noncomputable def b_law_next_2 : XS := (xSeq (xDPut 2 (xVar 4) (xC (.bl true)))
    (xFor (xIt (xCall f_law_near (xCons (xOp2 dIx (xVar 0) (xC (.int 0))) (xCons (xVar 4) xNil)))) (gSet 5) b_law_next_1))
noncomputable def b_law_next : XS := (xSeq (xSetO 2 (xC (.dicT false [])))
    (xSeq (xSetO 3 (xC (.dicT false [])))
    (xSeq (xFor (xIt (xVar 1)) (gSet 4) b_law_next_2)
    (xRet (xOpL dSorted (xCons (frzV 3 (lockV 3 (xLC (xItK 3) (gSet 5) (xTest (xOp2 dInX (xDIx 3 (xVar 5)) (xOp2 dIx (xVar 0) (xOp2 dAdd (xC (.int 1)) (xOpL dInt (xCons (xCmpO dInX (xVar 5) 2) xNil)))))) (xVar 5) [5]))) xNil))))))
noncomputable def f_law_next : DF := runP [false, false] 6 true b_law_next
/-! _law_touch -/
noncomputable def b_law_touch_1 : XS := (xDPut 3 (xVar 5) (xC (.bl true)))
noncomputable def b_law_touch_2 : XS := (xFor (xIt (xCall f_law_near (xCons (xVar 0) (xCons (xVar 4) xNil)))) (gSet 5) b_law_touch_1)
noncomputable def b_law_touch_3 : XS := (xIfS (xTest (xOpL dAny (xCons (xLC (xIt (xCall f_law_near (xCons (xVar 0) (xCons (xVar 4) xNil)))) (gSet 5) xYes (xCmpO dInX (xVar 5) 3) [5]) xNil)))
    (xRet (xC (.bl true)))
    xNext)
noncomputable def b_law_touch : XS := (xSeq (xSetO 3 (xC (.dicT false [])))
    (xSeq (xFor (xIt (xVar 1)) (gSet 4) b_law_touch_2)
    (xSeq (xFor (xIt (xVar 2)) (gSet 4) b_law_touch_3)
    (xRet (xC (.bl false))))))
noncomputable def f_law_touch : DF := runP [false, false, false] 6 false b_law_touch
/-! _law_meet -/
noncomputable def b_law_meet_1 : XS := (xSeq (xIfS (xTest (xCall f_law_touch (xCons (xOp2 dIx (xVar 0) (xC (.int 0))) (xCons (xVar 1) (xCons (xVar 2) xNil)))))
    (xRet (xC (.bl true)))
    xNext)
    (xSeq (xSet 1 (xCall f_law_next (xCons (xVar 0) (xCons (xVar 1) xNil))))
    (xSet 2 (xCall f_law_next (xCons (xVar 0) (xCons (xVar 2) xNil))))))
noncomputable def b_law_meet : XS := (xSeq (xFor (xItR1 (xVar 3)) (gSet 4) b_law_meet_1)
    (xRet (xC (.bl false))))
noncomputable def f_law_meet : DF := runP [false, false, false, false] 5 false b_law_meet
/-! _law_cut -/
noncomputable def b_law_cut_1 : XS := (xSeq (xIfS (xTest (xOp2 dEq (xOp2 dMod (xVar 1) (xC (.int 2))) (xC (.int 1))))
    (xAppend 2 (xVar 4))
    (xAppend 3 (xVar 4)))
    (xSet 1 (xOp2 dDiv (xVar 1) (xC (.int 2)))))
noncomputable def b_law_cut : XS := (xSeq (xSetO 2 (xOpL dLst xNil))
    (xSeq (xSetO 3 (xOpL dLst (xCons (xOp2 dIx (xVar 0) (xC (.int 0))) xNil)))
    (xSeq (xFor (xIt (xSl dSlL (xVar 0) (xpSome (xC (.int 1))) xpNone)) (gSet 4) b_law_cut_1)
    (xRet (xOpL dTup (xCons (xTake 2) (xCons (xTake 3) xNil)))))))
noncomputable def f_law_cut : DF := runP [false, false] 5 false b_law_cut
/-! _law_holds_together -/
noncomputable def b_law_holds_together_1 : XS := (xSeq (xAsg (xCall f_law_cut (xCons (xVar 2) (xCons (xVar 6) xNil))) (gsTup 2 (gsCons (gSet 7) (gsCons (gSet 8) gsNil))))
    (xIfS (xNot (xTest (xCall f_law_meet (xCons (xVar 1) (xCons (xVar 7) (xCons (xVar 8) (xCons (xVar 3) xNil)))))))
    (xRet (xC (.bl false)))
    xNext))
noncomputable def b_law_holds_together : XS := (xSeq (xSet 4 (xOp2 dRg2L (xC (.int 1)) (xOp2 dShl (xC (.int 1)) (xOp2 dSub (xOpL dLen (xCons (xVar 2) xNil)) (xC (.int 1))))))
    (xSeq (xIfS (xTest (xOp2 (dCmp fun i j => decide (j < i)) (xOpL dLen (xCons (xVar 2) xNil)) (xC (.int 6))))
    (xSet 4 (xLC (xItR1 (xC (.int 30))) (gSet 5) xYes (xOp2 dAdd (xC (.int 1)) (xCallB f_law_draw 0 (xCons (xOpL dLen (xCons (xVar 4) xNil)) xNil))) [5]))
    xNext)
    (xSeq (xFor (xIt (xVar 4)) (gSet 6) b_law_holds_together_1)
    (xRet (xC (.bl true))))))
noncomputable def f_law_holds_together : DF := runB [false, false, false] 9 false b_law_holds_together
/-! _law_together -/
noncomputable def b_law_together_1 : XS := (xSet 1 (xOp2 dAdd (xVar 1) (xVar 2)))
noncomputable def b_law_together : XS := (xSeq (xSet 1 (xOpL dLst xNil))
    (xSeq (xFor (xIt (xVar 0)) (gSet 2) b_law_together_1)
    (xRet (xOpL dSorted (xCons (xVar 1) xNil)))))
noncomputable def f_law_together : DF := runP [false] 3 true b_law_together
/-! _law_long -/
noncomputable def b_law_long_1 : XS := (xSeq (xSet 5 (xCall f_law_next (xCons (xVar 1) (xCons (xVar 5) xNil))))
    (xSet 4 (xOp2 dAdd (xVar 4) (xC (.int 1)))))
noncomputable def b_law_long : XS := (xSeq (xIfS (xTest (xOp2 (dCmp fun i j => decide (j < i)) (xCallB f_law_draw 0 (xCons (xC (.int 4)) xNil)) (xC (.int 0))))
    (xRet (xVar 3))
    xNext)
    (xSeq (xSet 4 (xC (.int 0)))
    (xSeq (xSet 5 (xVar 2))
    (xSeq (xWhile 1000 (xAnd (xTest (xOp2 dLt (xVar 4) (xC (.int 30)))) (xTest (xOp2 dLt (xOpL dLen (xCons (xVar 5) xNil)) (xC (.int 9))))) b_law_long_1)
    (xRet (xOpL dMax2 (xCons (xVar 3) (xCons (xVar 4) xNil))))))))
noncomputable def f_law_long : DF := runB [false, false, false] 6 false b_law_long
/-! law -/
noncomputable def b_law_1 : XS := (xSeq (xIfS (xNot (xTest (xCallB f_law_holds_together 2 (xCons (xVar 3) (xCons (xOp2 dIx (xVar 6) (xVar 7)) (xCons (xVar 5) xNil))))))
    (xRet (xC (.bl false)))
    xNext)
    (xIfS (xAnd (xTest (xOp2 (dCmp fun i j => decide (j < i)) (xVar 7) (xC (.int 0)))) (xTest (xCall f_law_meet (xCons (xVar 3) (xCons (xOp2 dIx (xVar 6) (xOp2 dSub (xVar 7) (xC (.int 1)))) (xCons (xOp2 dIx (xVar 6) (xVar 7)) (xCons (xVar 5) xNil)))))))
    (xRet (xC (.bl false)))
    xNext))
noncomputable def b_law_2 : XS := (xSeq (xSetO 2 (xCall f_law_pen (xCons (xVar 0) (xCons (xVar 1) xNil))))
    (xSeq (xSet 3 (xCallB f_law_rule 2 xNil))
    (xSeq (xSet 4 (xCallB f_law_picture 2 xNil))
    (xSeq (xSet 5 (xCallB f_law_long 2 (xCons (xVar 3) (xCons (xVar 4) (xCons (xCallB f_law_draw 2 (xCons (xC (.int 7)) xNil)) xNil)))))
    (xSeq (xSet 6 (xOp2 dIx (xCall f_parts (xCons (xVar 3) (xCons (xOpL dList (xCons (xVar 4) xNil)) (xCons (xVar 5) xNil)))) (xC (.int 0))))
    (xSeq (xIfS (xOr (xTest (xOp2 dNe (xCall f_law_together (xCons (xVar 6) xNil)) (xVar 4))) (xTest (xOp2 dInX (xOpL dLst xNil) (xVar 6))))
    (xRet (xC (.bl false)))
    xNext)
    (xFor (xItR1 (xOpL dLen (xCons (xVar 6) xNil))) (gSet 7) b_law_1)))))))
noncomputable def b_law : XS := (xSeq (xFor (xItR1 (xOpL dMax2 (xCons (xC (.int 2)) (xCons (xOpL dMin2 (xCons (xC (.int 4)) (xCons (xOpL dLen (xCons (xVar 0) xNil)) xNil))) xNil)))) (gSet 1) b_law_2)
    (xRet (xC (.bl true))))
noncomputable def f_law : DF := runP [false] 8 false b_law
structure Ad where
  a_is_near : Addr
  d_is_near : FuncData
  a_offsets : Addr
  d_offsets : FuncData
  a_around : Addr
  d_around : FuncData
  a_is_quiet : Addr
  d_is_quiet : FuncData
  a_ask_quiet : Addr
  d_ask_quiet : FuncData
  a_comes : Addr
  d_comes : FuncData
  a_counts : Addr
  d_counts : FuncData
  a_next_turn : Addr
  d_next_turn : FuncData
  a_hangs_on : Addr
  d_hangs_on : FuncData
  a_Groups___init : Addr
  d_Groups___init : FuncData
  a_Groups_near : Addr
  d_Groups_near : FuncData
  a_Groups_crowded : Addr
  d_Groups_crowded : FuncData
  a_Groups_merged : Addr
  d_Groups_merged : FuncData
  a_Groups_go_on : Addr
  d_Groups_go_on : FuncData
  a_Groups_parts : Addr
  d_Groups_parts : FuncData
  a_parts : Addr
  d_parts : FuncData
  a_law_pen : Addr
  d_law_pen : FuncData
  a_law_draw : Addr
  d_law_draw : FuncData
  a_law_number : Addr
  d_law_number : FuncData
  a_law_rule : Addr
  d_law_rule : FuncData
  a_law_picture : Addr
  d_law_picture : FuncData
  a_law_near : Addr
  d_law_near : FuncData
  a_law_next : Addr
  d_law_next : FuncData
  a_law_touch : Addr
  d_law_touch : FuncData
  a_law_meet : Addr
  d_law_meet : FuncData
  a_law_cut : Addr
  d_law_cut : FuncData
  a_law_holds_together : Addr
  d_law_holds_together : FuncData
  a_law_together : Addr
  d_law_together : FuncData
  a_law_long : Addr
  d_law_long : FuncData
  a_law : Addr
  d_law : FuncData
  c_Loud : Addr
  c_Groups : Addr
structure Txt (K : PySem.W.Frag) (mg : Str → Option Value) (cv : String → Value) (A : Ad) : Prop where
  F_is_near : Fun K "is_near" "is_near" s_is_near A.a_is_near A.d_is_near
  B_is_near : Binds K A.d_is_near ["kind", "dx", "dy"] []
  M_is_near : mg "is_near" = some (.ref A.a_is_near)
  F_offsets : Fun K "offsets" "offsets" s_offsets A.a_offsets A.d_offsets
  B_offsets : Binds K A.d_offsets ["kind"] []
  M_offsets : mg "offsets" = some (.ref A.a_offsets)
  F_around : Fun K "around" "around" s_around A.a_around A.d_around
  B_around : Binds K A.d_around [] []
  M_around : mg "around" = some (.ref A.a_around)
  F_is_quiet : Fun K "is_quiet" "is_quiet" s_is_quiet A.a_is_quiet A.d_is_quiet
  B_is_quiet : Binds K A.d_is_quiet ["told"] []
  M_is_quiet : mg "is_quiet" = some (.ref A.a_is_quiet)
  F_ask_quiet : Fun K "ask_quiet" "ask_quiet" s_ask_quiet A.a_ask_quiet A.d_ask_quiet
  B_ask_quiet : Binds K A.d_ask_quiet ["told"] []
  M_ask_quiet : mg "ask_quiet" = some (.ref A.a_ask_quiet)
  F_comes : Fun K "comes" "comes" s_comes A.a_comes A.d_comes
  B_comes : Binds K A.d_comes ["told", "alive", "count"] []
  M_comes : mg "comes" = some (.ref A.a_comes)
  F_counts : Fun K "counts" "counts" s_counts A.a_counts A.d_counts
  B_counts : Binds K A.d_counts ["kind", "live"] []
  M_counts : mg "counts" = some (.ref A.a_counts)
  F_next_turn : Fun K "next_turn" "next_turn" s_next_turn A.a_next_turn A.d_next_turn
  B_next_turn : Binds K A.d_next_turn ["rule", "live"] []
  M_next_turn : mg "next_turn" = some (.ref A.a_next_turn)
  F_hangs_on : Fun K "hangs_on" "hangs_on" s_hangs_on A.a_hangs_on A.d_hangs_on
  B_hangs_on : Binds K A.d_hangs_on ["kind", "cell"] []
  M_hangs_on : mg "hangs_on" = some (.ref A.a_hangs_on)
  F_Groups___init : Fun K "__init__" "Groups.__init__" s_Groups___init A.a_Groups___init A.d_Groups___init
  B_Groups___init : Binds K A.d_Groups___init ["self", "told", "live"] []
  F_Groups_near : Fun K "near" "Groups.near" s_Groups_near A.a_Groups_near A.d_Groups_near
  B_Groups_near : Binds K A.d_Groups_near ["self", "cell"] []
  F_Groups_crowded : Fun K "crowded" "Groups.crowded" s_Groups_crowded A.a_Groups_crowded A.d_Groups_crowded
  B_Groups_crowded : Binds K A.d_Groups_crowded ["self"] []
  F_Groups_merged : Fun K "merged" "Groups.merged" s_Groups_merged A.a_Groups_merged A.d_Groups_merged
  B_Groups_merged : Binds K A.d_Groups_merged ["self", "cell"] []
  F_Groups_go_on : Fun K "go_on" "Groups.go_on" s_Groups_go_on A.a_Groups_go_on A.d_Groups_go_on
  B_Groups_go_on : Binds K A.d_Groups_go_on ["self"] []
  F_Groups_parts : Fun K "parts" "Groups.parts" s_Groups_parts A.a_Groups_parts A.d_Groups_parts
  B_Groups_parts : Binds K A.d_Groups_parts ["self"] []
  F_parts : Fun K "parts" "parts" s_parts A.a_parts A.d_parts
  B_parts : Binds K A.d_parts ["told", "live", "many"] []
  M_parts : mg "parts" = some (.ref A.a_parts)
  F_law_pen : Fun K "_law_pen" "_law_pen" s_law_pen A.a_law_pen A.d_law_pen
  B_law_pen : Binds K A.d_law_pen ["_law_script", "_law_k"] []
  M_law_pen : mg "_law_pen" = some (.ref A.a_law_pen)
  F_law_draw : Fun K "_law_draw" "_law_draw" s_law_draw A.a_law_draw A.d_law_draw
  B_law_draw : Binds K A.d_law_draw ["_law_pen_here", "_law_many"] []
  M_law_draw : mg "_law_draw" = some (.ref A.a_law_draw)
  F_law_number : Fun K "_law_number" "_law_number" s_law_number A.a_law_number A.d_law_number
  B_law_number : Binds K A.d_law_number ["_law_pen_here"] []
  M_law_number : mg "_law_number" = some (.ref A.a_law_number)
  F_law_rule : Fun K "_law_rule" "_law_rule" s_law_rule A.a_law_rule A.d_law_rule
  B_law_rule : Binds K A.d_law_rule ["_law_pen_here"] []
  M_law_rule : mg "_law_rule" = some (.ref A.a_law_rule)
  F_law_picture : Fun K "_law_picture" "_law_picture" s_law_picture A.a_law_picture A.d_law_picture
  B_law_picture : Binds K A.d_law_picture ["_law_pen_here"] []
  M_law_picture : mg "_law_picture" = some (.ref A.a_law_picture)
  F_law_near : Fun K "_law_near" "_law_near" s_law_near A.a_law_near A.d_law_near
  B_law_near : Binds K A.d_law_near ["_law_kind", "_law_cell"] []
  M_law_near : mg "_law_near" = some (.ref A.a_law_near)
  F_law_next : Fun K "_law_next" "_law_next" s_law_next A.a_law_next A.d_law_next
  B_law_next : Binds K A.d_law_next ["_law_by", "_law_live"] []
  M_law_next : mg "_law_next" = some (.ref A.a_law_next)
  F_law_touch : Fun K "_law_touch" "_law_touch" s_law_touch A.a_law_touch A.d_law_touch
  B_law_touch : Binds K A.d_law_touch ["_law_kind", "_law_one", "_law_other"] []
  M_law_touch : mg "_law_touch" = some (.ref A.a_law_touch)
  F_law_meet : Fun K "_law_meet" "_law_meet" s_law_meet A.a_law_meet A.d_law_meet
  B_law_meet : Binds K A.d_law_meet ["_law_by", "_law_one", "_law_other", "_law_many"] []
  M_law_meet : mg "_law_meet" = some (.ref A.a_law_meet)
  F_law_cut : Fun K "_law_cut" "_law_cut" s_law_cut A.a_law_cut A.d_law_cut
  B_law_cut : Binds K A.d_law_cut ["_law_part", "_law_number_here"] []
  M_law_cut : mg "_law_cut" = some (.ref A.a_law_cut)
  F_law_holds_together : Fun K "_law_holds_together" "_law_holds_together" s_law_holds_together A.a_law_holds_together A.d_law_holds_together
  B_law_holds_together : Binds K A.d_law_holds_together ["_law_pen_here", "_law_by", "_law_part", "_law_many"] []
  M_law_holds_together : mg "_law_holds_together" = some (.ref A.a_law_holds_together)
  F_law_together : Fun K "_law_together" "_law_together" s_law_together A.a_law_together A.d_law_together
  B_law_together : Binds K A.d_law_together ["_law_some"] []
  M_law_together : mg "_law_together" = some (.ref A.a_law_together)
  F_law_long : Fun K "_law_long" "_law_long" s_law_long A.a_law_long A.d_law_long
  B_law_long : Binds K A.d_law_long ["_law_pen_here", "_law_by", "_law_live", "_law_many"] []
  M_law_long : mg "_law_long" = some (.ref A.a_law_long)
  F_law : Fun K "law" "law" s_law A.a_law A.d_law
  B_law : Binds K A.d_law ["_law_script"] []
  M_law : mg "law" = some (.ref A.a_law)
  N_Groups : mg "Groups" = some (.ref A.c_Groups)
  W_Groups : ClsAt K "Groups" A.c_Groups
  I_Groups : Cls K A.c_Groups
  J_Groups : Mk K A.c_Groups A.a_Groups___init
  H_Groups_near : Meth K A.c_Groups "near" A.a_Groups_near
  H_Groups_crowded : Meth K A.c_Groups "crowded" A.a_Groups_crowded
  H_Groups_merged : Meth K A.c_Groups "merged" A.a_Groups_merged
  H_Groups_go_on : Meth K A.c_Groups "go_on" A.a_Groups_go_on
  H_Groups_parts : Meth K A.c_Groups "parts" A.a_Groups_parts
  A_Groups_told : NoAttr K A.c_Groups "told"
  A_Groups_steps : NoAttr K A.c_Groups "steps"
  A_Groups_starts : NoAttr K A.c_Groups "starts"
  A_Groups_alive : NoAttr K A.c_Groups "alive"
  Z_any : mg "any" = none
  Z_enumerate : mg "enumerate" = none
  Z_int : mg "int" = none
  Z_len : mg "len" = none
  Z_list : mg "list" = none
  Z_max : mg "max" = none
  Z_min : mg "min" = none
  Z_range : mg "range" = none
  Z_set : mg "set" = none
  Z_sorted : mg "sorted" = none
  Z_tuple : mg "tuple" = none
  N_Loud : mg "Loud" = some (.ref A.c_Loud)
  L_Loud : ClsT K A.c_Loud
  T_Loud : ExcT K A.c_Loud
  V_Loud : cv "Loud" = .ref A.c_Loud
section
variable {P : Program} {w : World} {K : PySem.W.Frag} {mg : Str → Option Value} {base : Heap} {cv : String → Value} {A : Ad}
theorem ok_is_near (T : Txt K mg cv A) : FnOk P w K mg base (L2.CX P w) 1 A.a_is_near A.d_is_near ["kind", "dx", "dy"] (spP K cv false [false, false, false] f_is_near) := by
  have nd := sc_is_near.nd
  exact fn_pure (body := b_is_near) [false, false, false] T.F_is_near sc_is_near f_is_near rfl (by decide) rfl (fun cdv AA outer s H E hr => by
    have tk := takes_of (X := cxOf (L2.CX P w) P w K mg base ["kind", "dx", "dy"] "is_near" (defScope s_is_near) A.a_is_near cdv AA outer s H E) rfl rfl rfl rfl
    exact (xs_one (xs_ret (xe_or (xe_cmp (op_eqD hr.units) imp_eq (xe_var 0) xe_int (nomark _)) (xe_or (xe_cmp (op_eqD hr.units) imp_eq (xe_var 1) xe_int (nomark _)) (xe_or (xe_cmp (op_eqD hr.units) imp_eq (xe_var 2) xe_int (nomark _)) (xe_one (xe_and (xe_cmp (op_eqD hr.units) imp_eq (xe_var 0) xe_int (nomark _)) (xe_one (xe_cmp (op_eqD hr.units) imp_eq (xe_var 1) (xe_var 2) (nomark _)))))))))))
theorem ok_around (T : Txt K mg cv A) : FnOk P w K mg base (L2.CX P w) 1 A.a_around A.d_around [] (spP K cv true [] f_around) := by
  have nd := sc_around.nd
  exact fn_pure (body := b_around) [] T.F_around sc_around f_around rfl (by decide) rfl (fun cdv AA outer s H E hr => by
    have tk := takes_of (X := cxOf (L2.CX P w) P w K mg base ["$", "found", "dx", "dy"] "around" (defScope s_around) A.a_around cdv AA outer s H E) rfl rfl rfl rfl
    exact (xs_cons (xs_setO (i := 1) nd rfl (Or.inl rfl) (xn_lst xa_nil))
    (xs_cons (xs_for (passes_of rfl) rfl (xi_range2 (by rfl) T.Z_range (xe_un un_neg imp_neg xe_int) xe_int) (xg_name nd rfl (Or.inl rfl))
    (xs_one (xs_for (passes_of rfl) rfl (xi_range2 (by rfl) T.Z_range (xe_un un_neg imp_neg xe_int) xe_int) (xg_name nd rfl (Or.inl rfl))
    (xs_one (xs_append (i := 1) rfl (Or.inl rfl) (xe_tup (xa_cons (xe_var 2) (xa_cons (xe_var 3) xa_nil))) (pe_bm PySem.F.plainAttrs_list PySem.F.slot_list_append PySem.F.type_list_append mt_append (pv 1) (pa_cons (xe_tup (xa_cons (xe_var 2) (xa_cons (xe_var 3) xa_nil))) pa_nil)))))))
    (xs_one (xs_retN (xn_take 1))))))
theorem ok_offsets (T : Txt K mg cv A) : FnOk P w K mg base (L2.CX P w) 2 A.a_offsets A.d_offsets ["kind"] (spP K cv true [false] f_offsets) := by
  have G_is_near := ok_is_near (P := P) (w := w) (base := base) (cv := cv) T
  have G_around := ok_around (P := P) (w := w) (base := base) (cv := cv) T
  have nd := sc_offsets.nd
  exact fn_pure (body := b_offsets) [false] T.F_offsets sc_offsets f_offsets rfl (by decide) rfl (fun cdv AA outer s H E hr => by
    have tk := takes_of (X := cxOf (L2.CX P w) P w K mg base ["kind", "steps", "dx", "dy", "step"] "offsets" (defScope s_offsets) A.a_offsets cdv AA outer s H E) rfl rfl rfl rfl
    exact (xs_cons (xs_setLc (i := 1) (own := [("dx", 2), ("dy", 3)]) (by decide) rfl nd rfl rfl (sw_true rfl rfl rfl (by decide +kernel)) (xi_seq (of_new (xn_call0 tk G_around (hr.mono (by decide)) (by rfl) T.M_around T.F_around.kp T.B_around))) (blkOk_by (own := [("dx", 2), ("dy", 3)]) (N := ["kind", "steps", "dx", "dy", "step"]) (sc := defScope s_offsets) (by decide +kernel)) (fun _ _ _ _ _ => (xg_tup rfl (xgs_cons (xg_nameW nd rfl (Or.inl rfl)) (xgs_cons (xg_nameW nd rfl (Or.inl rfl)) xgs_nil)))) (fun _ _ _ _ _ => (xts_one (xt_val (xe_call (ban := 1000) takes0 G_is_near (hr.mono (by decide)) (by rfl) T.M_is_near T.F_is_near.kp T.B_is_near (xm_val (xe_var 0) (xm_val (xe_var 2) (xm_val (xe_var 3) xm_nil))))))) (fun _ _ _ _ _ => (xe_tup (xa_cons (xe_var 2) (xa_cons (xe_var 3) xa_nil)))))
    (xs_one (xs_retN (xn_lc (own := [("step", 4)]) rfl nd (xi_seq (xe_var 1)) (blkOk_by (own := [("step", 4)]) (N := ["kind", "steps", "dx", "dy", "step"]) (sc := defScope s_offsets) (by decide +kernel)) (fun _ _ _ _ _ => (xg_nameW nd rfl (Or.inl rfl))) (fun _ _ _ _ _ => (xts_one (xt_cmp (op_neD hr.units) imp_ne (xe_var 4) (xe_tup (xa_cons xe_int (xa_cons xe_int xa_nil))) (nomark _)))) (fun _ _ _ _ _ => (xe_var 4)))))))
theorem ok_is_quiet (T : Txt K mg cv A) : FnOk P w K mg base (L2.CX P w) 1 A.a_is_quiet A.d_is_quiet ["told"] (spP K cv false [false] f_is_quiet) := by
  have nd := sc_is_quiet.nd
  exact fn_pure (body := b_is_quiet) [false] T.F_is_quiet sc_is_quiet f_is_quiet rfl (by decide) rfl (fun cdv AA outer s H E hr => by
    have tk := takes_of (X := cxOf (L2.CX P w) P w K mg base ["told"] "is_quiet" (defScope s_is_quiet) A.a_is_quiet cdv AA outer s H E) rfl rfl rfl rfl
    exact (xs_one (xs_ret (xe_cmp (op_notInX (hu65 hr)) imp_notInX xe_int (xe_ixR ix_seq imp_ix (xe_var 0) xe_int (fun _ _ => rfl)) (by rfl)))))
theorem ok_ask_quiet (T : Txt K mg cv A) : FnOk P w K mg base (L2.CX P w) 2 A.a_ask_quiet A.d_ask_quiet ["told"] (spP K cv false [false] f_ask_quiet) := by
  have G_is_quiet := ok_is_quiet (P := P) (w := w) (base := base) (cv := cv) T
  have nd := sc_ask_quiet.nd
  exact fn_pure (body := b_ask_quiet) [false] T.F_ask_quiet sc_ask_quiet f_ask_quiet rfl (by decide) rfl (fun cdv AA outer s H E hr => by
    have tk := takes_of (X := cxOf (L2.CX P w) P w K mg base ["told"] "ask_quiet" (defScope s_ask_quiet) A.a_ask_quiet cdv AA outer s H E) rfl rfl rfl rfl
    exact (xs_one (xs_if (xt_not (xt_val (xe_call (ban := 1000) tk G_is_quiet (hr.mono (by decide)) (by rfl) T.M_is_quiet T.F_is_quiet.kp T.B_is_quiet (xm_val (xe_var 0) xm_nil))))
    (xs_one (xs_raise rfl tk T.T_Loud T.N_Loud (by rfl) T.V_Loud))
    xs_nil)))
theorem ok_comes (T : Txt K mg cv A) : FnOk P w K mg base (L2.CX P w) 1 A.a_comes A.d_comes ["told", "alive", "count"] (spP K cv false [false, false, false] f_comes) := by
  have nd := sc_comes.nd
  exact fn_pure (body := b_comes) [false, false, false] T.F_comes sc_comes f_comes rfl (by decide) rfl (fun cdv AA outer s H E hr => by
    have tk := takes_of (X := cxOf (L2.CX P w) P w K mg base ["told", "alive", "count"] "comes" (defScope s_comes) A.a_comes cdv AA outer s H E) rfl rfl rfl rfl
    exact (xs_cons (xs_if (xt_val (xe_var 1))
    (xs_one (xs_ret (xe_cmp (op_inX (hu65 hr)) imp_inX (xe_var 2) (xe_ixR ix_seq imp_ix (xe_var 0) xe_int (fun _ _ => rfl)) (by rfl))))
    xs_nil)
    (xs_one (xs_ret (xe_cmp (op_inX (hu65 hr)) imp_inX (xe_var 2) (xe_ixR ix_seq imp_ix (xe_var 0) xe_int (fun _ _ => rfl)) (by rfl))))))
theorem ok_counts (T : Txt K mg cv A) : FnOk P w K mg base (L2.CX P w) 3 A.a_counts A.d_counts ["kind", "live"] (spP K cv true [false, true] f_counts) := by
  have G_offsets := ok_offsets (P := P) (w := w) (base := base) (cv := cv) T
  have nd := sc_counts.nd
  exact fn_pure (body := b_counts) [false, true] T.F_counts sc_counts f_counts rfl (by decide) rfl (fun cdv AA outer s H E hr => by
    have tk := takes_of (X := cxOf (L2.CX P w) P w K mg base ["kind", "live", "near", "found", "x", "y", "dx", "dy", "cell"] "counts" (defScope s_counts) A.a_counts cdv AA outer s H E) rfl rfl rfl rfl
    exact (xs_cons (xs_set (i := 2) nd rfl (Or.inl rfl) (of_new (xn_call (ban := 1000) tk G_offsets (hr.mono (by decide)) (by rfl) T.M_offsets T.F_offsets.kp T.B_offsets (xm_val (xe_var 0) xm_nil))))
    (xs_cons (xs_setO (i := 3) nd rfl (Or.inl rfl) xn_dnewT)
    (xs_cons (xs_for (passes_of rfl) rfl (xi_own (pv 1)) (xg_tup rfl (xgs_cons (xg_name nd rfl (Or.inl rfl)) (xgs_cons (xg_name nd rfl (Or.inl rfl)) xgs_nil)))
    (xs_one (xs_for (passes_of rfl) rfl (xi_seq (xe_var 2)) (xg_tup rfl (xgs_cons (xg_name nd rfl (Or.inl rfl)) (xgs_cons (xg_name nd rfl (Or.inl rfl)) xgs_nil)))
    (xs_cons (xs_set (i := 8) nd rfl (Or.inl rfl) (xe_tup (xa_cons (xe_op2R op_addAll imp_add (xe_var 4) (xe_var 6)) (xa_cons (xe_op2R op_addAll imp_add (xe_var 5) (xe_var 7)) xa_nil))))
    (xs_one (xs_dput (i := 3) (hu1 hr) (pv 3) (xe_var 8) (xe_op2R op_addAll imp_add (xe_dget2 (hu1 hr) (pv 3) (xe_var 8) xe_int) xe_int)))))))
    (xs_one (xs_retN (xn_take 3)))))))
theorem ok_next_turn (T : Txt K mg cv A) : FnOk P w K mg base (L2.CX P w) 4 A.a_next_turn A.d_next_turn ["rule", "live"] (spP K cv true [false, false] f_next_turn) := by
  have G_ask_quiet := ok_ask_quiet (P := P) (w := w) (base := base) (cv := cv) T
  have G_comes := ok_comes (P := P) (w := w) (base := base) (cv := cv) T
  have G_counts := ok_counts (P := P) (w := w) (base := base) (cv := cv) T
  have nd := sc_next_turn.nd
  exact fn_pure (body := b_next_turn) [false, false] T.F_next_turn sc_next_turn f_next_turn rfl (by decide) rfl (fun cdv AA outer s H E hr => by
    have tk := takes_of (X := cxOf (L2.CX P w) P w K mg base ["rule", "live", "near", "alive", "cell", "some"] "next_turn" (defScope s_next_turn) A.a_next_turn cdv AA outer s H E) rfl rfl rfl rfl
    exact (xs_cons (xs_expr (xe_call (ban := 1000) tk G_ask_quiet (hr.mono (by decide)) (by rfl) T.M_ask_quiet T.F_ask_quiet.kp T.B_ask_quiet (xm_val (xe_var 0) xm_nil)))
    (xs_cons (xs_set (i := 2) nd rfl (Or.inr rfl) (of_new (xn_call (ban := 1000) tk G_counts (hr.mono (by decide)) (by rfl) T.M_counts T.F_counts.kp T.B_counts (xm_val (xe_ixR ix_seq imp_ix (xe_var 0) xe_int (fun _ _ => rfl)) (xm_valR (xe_var 1) xm_nil)))))
    (xs_cons (xs_setO (i := 3) nd rfl (Or.inr rfl) xn_dnewT)
    (xs_cons (xs_for (passes_of rfl) rfl (xi_seq (xe_var 1)) (xg_name nd rfl (Or.inl rfl))
    (xs_one (xs_dput (i := 3) (hu1 hr) (pv 3) (xe_var 4) xe_bl)))
    (xs_cons (xs_set (i := 5) nd rfl (Or.inl rfl) (of_new (xn_sortedSetG rfl (hu200 hr) (by rfl) T.Z_sorted (by rfl) T.Z_set (xe_op2R op_addAll imp_add (of_new (xn_listDV rfl (by rfl) T.Z_list (xe_var 2))) (xe_var 1)))))
    (xs_one (xs_retN (xn_lc (own := [("cell", 4)]) rfl nd (xi_seq (xe_var 5)) (blkOk_by (own := [("cell", 4)]) (N := ["rule", "live", "near", "alive", "cell", "some"]) (sc := defScope s_next_turn) (by decide +kernel)) (fun _ _ _ _ _ => (xg_nameW nd rfl (Or.inl rfl))) (fun _ _ _ _ _ => (xts_one (xt_val (xe_call (ban := 1000) takes0 G_comes (hr.mono (by decide)) (by rfl) T.M_comes T.F_comes.kp T.B_comes (xm_val (xe_var 0) (xm_val (xe_cmpO (op_inX (hu65 hr)) imp_inX (xe_var 4) (pv 3) (by rfl)) (xm_val (xe_dgetV (hu1 hr) (xe_var 2) (xe_var 4) xe_int) xm_nil))))))) (fun _ _ _ _ _ => (xe_var 4)))))))))))
theorem ok_hangs_on (T : Txt K mg cv A) : FnOk P w K mg base (L2.CX P w) 3 A.a_hangs_on A.d_hangs_on ["kind", "cell"] (spP K cv true [false, false] f_hangs_on) := by
  have G_offsets := ok_offsets (P := P) (w := w) (base := base) (cv := cv) T
  have nd := sc_hangs_on.nd
  exact fn_pure (body := b_hangs_on) [false, false] T.F_hangs_on sc_hangs_on f_hangs_on rfl (by decide) rfl (fun cdv AA outer s H E hr => by
    have tk := takes_of (X := cxOf (L2.CX P w) P w K mg base ["kind", "cell", "dx", "dy"] "hangs_on" (defScope s_hangs_on) A.a_hangs_on cdv AA outer s H E) rfl rfl rfl rfl
    exact (xs_one (xs_retN (xn_callB (cr_sortedD (hu200 hr)) imp_sorted (by rfl) T.Z_sorted bt_sorted (xa_cons (xe_op2R op_addAll imp_add (of_new (xn_lst (xa_cons (xe_var 1) xa_nil))) (of_new (xn_lc (own := [("dx", 2), ("dy", 3)]) rfl nd (xi_seq (of_new (xn_call (ban := 1000) tk G_offsets (hr.mono (by decide)) (by rfl) T.M_offsets T.F_offsets.kp T.B_offsets (xm_val (xe_var 0) xm_nil)))) (blkOk_by (own := [("dx", 2), ("dy", 3)]) (N := ["kind", "cell", "dx", "dy"]) (sc := defScope s_hangs_on) (by decide +kernel)) (fun _ _ _ _ _ => (xg_tup rfl (xgs_cons (xg_nameW nd rfl (Or.inl rfl)) (xgs_cons (xg_nameW nd rfl (Or.inl rfl)) xgs_nil)))) (fun _ _ _ _ _ => xts_nil) (fun _ _ _ _ _ => (xe_tup (xa_cons (xe_op2R op_addAll imp_add (xe_ixR ix_seq imp_ix (xe_var 1) xe_int (fun _ _ => rfl)) (xe_var 2)) (xa_cons (xe_op2R op_addAll imp_add (xe_ixR ix_seq imp_ix (xe_var 1) xe_int (fun _ _ => rfl)) (xe_var 3)) xa_nil))))))) xa_nil)))))
theorem ok_Groups___init (T : Txt K mg cv A) : FnOk P w K mg base (L2.CX P w) 4 A.a_Groups___init A.d_Groups___init ["self", "told", "live"] (spM K f_Groups___init) := by
  have G_hangs_on := ok_hangs_on (P := P) (w := w) (base := base) (cv := cv) T
  have nd := sc_Groups___init.nd
  exact fn_M (n := 5) (body := b_Groups___init) T.F_Groups___init sc_Groups___init rfl rfl (by decide) (fun gd ds h => argM gd ds (by simp only [List.length_cons, List.length_nil] at h; omega)) (fun cdv AA outer s H E hr => by
    have tk := takes_of (X := cxOf (L2.CX P w) P w K mg base ["self", "told", "live", "number", "cell"] "Groups.__init__" (defScope s_Groups___init) A.a_Groups___init cdv AA outer s H E) rfl rfl rfl rfl
    exact ⟨_, (pss_cons (ps_fld (pv 0) (xe_var 1) (by rfl))
    (pss_cons (ps_fld (pv 0) (of_new (xn_call (ban := 1000) tk G_hangs_on (hr.mono (by decide)) (by rfl) T.M_hangs_on T.F_hangs_on.kp T.B_hangs_on (xm_val (xe_ixR ix_seq imp_ix (xe_var 1) xe_int (fun _ _ => rfl)) (xm_val (xe_tup (xa_cons xe_int (xa_cons xe_int xa_nil))) xm_nil)))) (by rfl))
    (pss_cons (ps_fld (pv 0) pe_dnewT (by rfl))
    (pss_cons (ps_fld (pv 0) pe_dnewT (by rfl))
    (pss_cons (ps_for (passes_of rfl) rfl (pi_enum (by rfl) T.Z_enumerate (pa_cons (xe_var 2) pa_nil)) (xg_tup rfl (xgs_cons (xg_name nd rfl (Or.inl rfl)) (xgs_cons (xg_name nd rfl (Or.inl rfl)) xgs_nil)))
    (pss_cons (ps_dput (hu1 hr) (pe_fld (pv 0) (by rfl)) (xe_var 4) (xe_var 3) (by rfl))
    (pss_cons (ps_dput (hu1 hr) (pe_fld (pv 0) (by rfl)) (xe_var 4) (xe_var 3) (by rfl))
    pss_nil)))
    pss_nil))))), rt_arg (rt_seq (rt_fset (E := EWx cv fun cls d _ H => E cls d H) T.W_Groups T.I_Groups T.A_Groups_told)
    (rt_seq (rt_fset (E := EWx cv fun cls d _ H => E cls d H) T.W_Groups T.I_Groups T.A_Groups_steps)
    (rt_seq (rt_fnew T.W_Groups T.I_Groups T.A_Groups_starts)
    (rt_seq (rt_fnew T.W_Groups T.I_Groups T.A_Groups_alive)
    (rt_seq (rt_for (ri_enum (E := EWx cv fun cls d _ H => E cls d H))
    (rt_seq (rt_dput (E := EWx cv fun cls d _ H => E cls d H) T.W_Groups T.I_Groups T.A_Groups_starts)
    (rt_seq (rt_dput (E := EWx cv fun cls d _ H => E cls d H) T.W_Groups T.I_Groups T.A_Groups_alive)
    rt_nil)))
    rt_nil)))))⟩)
theorem ok_Groups_near (T : Txt K mg cv A) : FnOk P w K mg base (L2.CX P w) 1 A.a_Groups_near A.d_Groups_near ["self", "cell"] (spP K cv true [false, false] f_Groups_near) := by
  have nd := sc_Groups_near.nd
  exact fn_pure (body := b_Groups_near) [false, false] T.F_Groups_near sc_Groups_near f_Groups_near rfl (by decide) rfl (fun cdv AA outer s H E hr => by
    have tk := takes_of (X := cxOf (L2.CX P w) P w K mg base ["self", "cell", "around", "dx", "dy", "one"] "Groups.near" (defScope s_Groups_near) A.a_Groups_near cdv AA outer s H E) rfl rfl rfl rfl
    exact (xs_cons (xs_setLc (i := 2) (own := [("dx", 3), ("dy", 4)]) (by decide) rfl nd rfl rfl (sw_true rfl rfl rfl (by decide +kernel)) (xi_seq (xe_fld T.W_Groups T.I_Groups T.A_Groups_steps (xe_var 0))) (blkOk_by (own := [("dx", 3), ("dy", 4)]) (N := ["self", "cell", "around", "dx", "dy", "one"]) (sc := defScope s_Groups_near) (by decide +kernel)) (fun _ _ _ _ _ => (xg_tup rfl (xgs_cons (xg_nameW nd rfl (Or.inl rfl)) (xgs_cons (xg_nameW nd rfl (Or.inl rfl)) xgs_nil)))) (fun _ _ _ _ _ => xts_nil) (fun _ _ _ _ _ => (xe_tup (xa_cons (xe_op2R op_addAll imp_add (xe_ixR ix_seq imp_ix (xe_var 1) xe_int (fun _ _ => rfl)) (xe_var 3)) (xa_cons (xe_op2R op_addAll imp_add (xe_ixR ix_seq imp_ix (xe_var 1) xe_int (fun _ _ => rfl)) (xe_var 4)) xa_nil)))))
    (xs_one (xs_retN (xn_sortedSetI rfl (by rfl) T.Z_sorted (by rfl) T.Z_set (of_new (xn_lc (own := [("one", 5)]) rfl nd (xi_seq (xe_var 2)) (blkOk_by (own := [("one", 5)]) (N := ["self", "cell", "around", "dx", "dy", "one"]) (sc := defScope s_Groups_near) (by decide +kernel)) (fun _ _ _ _ _ => (xg_nameW nd rfl (Or.inl rfl))) (fun _ _ _ _ _ => (xts_one (xt_cmp (op_inX (hu65 hr)) imp_inX (xe_var 5) (xe_fld T.W_Groups T.I_Groups T.A_Groups_alive (xe_var 0)) (by rfl)))) (fun _ _ _ _ _ => (xe_dixV (hu1 hr) (xe_fld T.W_Groups T.I_Groups T.A_Groups_alive (xe_var 0)) (xe_var 5))))))))))
theorem ok_Groups_crowded (T : Txt K mg cv A) : FnOk P w K mg base (L2.CX P w) 1 A.a_Groups_crowded A.d_Groups_crowded ["self"] (spP K cv true [false] f_Groups_crowded) := by
  have nd := sc_Groups_crowded.nd
  exact fn_pure (body := b_Groups_crowded) [false] T.F_Groups_crowded sc_Groups_crowded f_Groups_crowded rfl (by decide) rfl (fun cdv AA outer s H E hr => by
    have tk := takes_of (X := cxOf (L2.CX P w) P w K mg base ["self", "first", "found", "cell", "dx", "dy", "one"] "Groups.crowded" (defScope s_Groups_crowded) A.a_Groups_crowded cdv AA outer s H E) rfl rfl rfl rfl
    exact (xs_cons (xs_setO (i := 1) nd rfl (Or.inl rfl) xn_dnewT)
    (xs_cons (xs_setO (i := 2) nd rfl (Or.inl rfl) xn_dnewT)
    (xs_cons (xs_for (passes_of rfl) rfl (xi_keysV (xe_fld T.W_Groups T.I_Groups T.A_Groups_alive (xe_var 0))) (xg_name nd rfl (Or.inl rfl))
    (xs_one (xs_for (passes_of rfl) rfl (xi_seq (xe_fld T.W_Groups T.I_Groups T.A_Groups_steps (xe_var 0))) (xg_tup rfl (xgs_cons (xg_name nd rfl (Or.inl rfl)) (xgs_cons (xg_name nd rfl (Or.inl rfl)) xgs_nil)))
    (xs_cons (xs_set (i := 6) nd rfl (Or.inl rfl) (xe_tup (xa_cons (xe_op2R op_addAll imp_add (xe_ixR ix_seq imp_ix (xe_var 3) xe_int (fun _ _ => rfl)) (xe_var 4)) (xa_cons (xe_op2R op_addAll imp_add (xe_ixR ix_seq imp_ix (xe_var 3) xe_int (fun _ _ => rfl)) (xe_var 5)) xa_nil))))
    (xs_one (xs_if (xt_cmp (op_neD hr.units) imp_ne (xe_dsetd (i := 1) (pe_bm PySem.F.plainAttrs_dict PySem.F.slot_dict_setdefault PySem.F.type_dict_setdefault (mt_setdT (hu1 hr)) (pv 1) (pa_cons (xe_var 6) (pa_cons (xe_dixV (hu1 hr) (xe_fld T.W_Groups T.I_Groups T.A_Groups_alive (xe_var 0)) (xe_var 3)) pa_nil)))) (xe_dixV (hu1 hr) (xe_fld T.W_Groups T.I_Groups T.A_Groups_alive (xe_var 0)) (xe_var 3)) (nomark _))
    (xs_one (xs_dput (i := 2) (hu1 hr) (pv 2) (xe_var 6) xe_bl))
    xs_nil))))))
    (xs_one (xs_retN (xn_sortDO rfl (hu200 hr) (by rfl) T.Z_sorted (pv 2))))))))
theorem ok_Groups_merged (T : Txt K mg cv A) : FnOk P w K mg base (L2.CX P w) 2 A.a_Groups_merged A.d_Groups_merged ["self", "cell"] (spM K f_Groups_merged) := by
  have G_Groups_near := ok_Groups_near (P := P) (w := w) (base := base) (cv := cv) T
  have nd := sc_Groups_merged.nd
  exact fn_M (n := 4) (body := b_Groups_merged) T.F_Groups_merged sc_Groups_merged rfl rfl (by decide) (fun gd ds h => argM gd ds (by simp only [List.length_cons, List.length_nil] at h; omega)) (fun cdv AA outer s H E hr => by
    have tk := takes_of (X := cxOf (L2.CX P w) P w K mg base ["self", "cell", "some", "one"] "Groups.merged" (defScope s_Groups_merged) A.a_Groups_merged cdv AA outer s H E) rfl rfl rfl rfl
    exact ⟨_, (pss_cons (ps_set (i := 2) nd rfl (Or.inl rfl) (of_new (xn_meth (ban := 1000) T.W_Groups T.I_Groups T.H_Groups_near tk G_Groups_near (hr.mono (by decide)) T.B_Groups_near (xe_var 0) (xm_val (xe_var 1) xm_nil))) (by rfl))
    (pss_cons (ps_if (xt_cmp (op_ltAll hr.units0) imp_lt (xe_callB call_lenAll imp_len (by rfl) T.Z_len bt_len (xa_cons (xe_var 2) xa_nil)) xe_int (nomark _))
    (pss_cons (ps_ret xe_bl)
    pss_nil)
    pss_nil)
    (pss_cons (ps_for (passes_of rfl) rfl (pi_list (of_new (xn_listDV rfl (by rfl) T.Z_list (xe_fld T.W_Groups T.I_Groups T.A_Groups_starts (xe_var 0))))) (xg_name nd rfl (Or.inl rfl))
    (pss_cons (ps_if (xt_cmp (op_inX (hu65 hr)) imp_inX (xe_dixV (hu1 hr) (xe_fld T.W_Groups T.I_Groups T.A_Groups_starts (xe_var 0)) (xe_var 3)) (xe_var 2) (by rfl))
    (pss_cons (ps_dput (hu1 hr) (pe_fld (pv 0) (by rfl)) (xe_var 3) (xe_ixR ix_seq imp_ix (xe_var 2) xe_int (fun _ _ => rfl)) (by rfl))
    pss_nil)
    pss_nil)
    pss_nil))
    (pss_cons (ps_for (passes_of rfl) rfl (pi_list (of_new (xn_listDV rfl (by rfl) T.Z_list (xe_fld T.W_Groups T.I_Groups T.A_Groups_alive (xe_var 0))))) (xg_name nd rfl (Or.inl rfl))
    (pss_cons (ps_if (xt_cmp (op_inX (hu65 hr)) imp_inX (xe_dixV (hu1 hr) (xe_fld T.W_Groups T.I_Groups T.A_Groups_alive (xe_var 0)) (xe_var 3)) (xe_var 2) (by rfl))
    (pss_cons (ps_dput (hu1 hr) (pe_fld (pv 0) (by rfl)) (xe_var 3) (xe_ixR ix_seq imp_ix (xe_var 2) xe_int (fun _ _ => rfl)) (by rfl))
    pss_nil)
    pss_nil)
    pss_nil))
    (pss_cons (ps_ret xe_bl)
    pss_nil))))), rt_arg (rt_seq (rt_set (E := EWx cv fun cls d _ H => E cls d H) (by decide))
    (rt_seq (rt_if (E := EWx cv fun cls d _ H => E cls d H) (rt_seq (rt_ret (E := EWx cv fun cls d _ H => E cls d H))
    rt_nil)
    rt_nil)
    (rt_seq (rt_for (ri_list (E := EWx cv fun cls d _ H => E cls d H))
    (rt_seq (rt_if (E := EWx cv fun cls d _ H => E cls d H) (rt_seq (rt_dput (E := EWx cv fun cls d _ H => E cls d H) T.W_Groups T.I_Groups T.A_Groups_starts)
    rt_nil)
    rt_nil)
    rt_nil))
    (rt_seq (rt_for (ri_list (E := EWx cv fun cls d _ H => E cls d H))
    (rt_seq (rt_if (E := EWx cv fun cls d _ H => E cls d H) (rt_seq (rt_dput (E := EWx cv fun cls d _ H => E cls d H) T.W_Groups T.I_Groups T.A_Groups_alive)
    rt_nil)
    rt_nil)
    rt_nil))
    (rt_seq (rt_ret (E := EWx cv fun cls d _ H => E cls d H))
    rt_nil)))))⟩)
theorem ok_Groups_go_on (T : Txt K mg cv A) : FnOk P w K mg base (L2.CX P w) 5 A.a_Groups_go_on A.d_Groups_go_on ["self"] (spM K f_Groups_go_on) := by
  have G_next_turn := ok_next_turn (P := P) (w := w) (base := base) (cv := cv) T
  have G_Groups_near := ok_Groups_near (P := P) (w := w) (base := base) (cv := cv) T
  have nd := sc_Groups_go_on.nd
  exact fn_M (n := 3) (body := b_Groups_go_on) T.F_Groups_go_on sc_Groups_go_on rfl rfl (by decide) (fun gd ds h => argM gd ds (by simp only [List.length_cons, List.length_nil] at h; omega)) (fun cdv AA outer s H E hr => by
    have tk := takes_of (X := cxOf (L2.CX P w) P w K mg base ["self", "later", "cell"] "Groups.go_on" (defScope s_Groups_go_on) A.a_Groups_go_on cdv AA outer s H E) rfl rfl rfl rfl
    exact ⟨_, (pss_cons (xs_setO (i := 1) nd rfl (Or.inl rfl) xn_dnewT)
    (pss_cons (ps_for (passes_of rfl) rfl (pi_list (of_new (xn_call (ban := 1000) tk G_next_turn (hr.mono (by decide)) (by rfl) T.M_next_turn T.F_next_turn.kp T.B_next_turn (xm_val (xe_fld T.W_Groups T.I_Groups T.A_Groups_told (xe_var 0)) (xm_val (of_new (xn_sortDV rfl (hu200 hr) (by rfl) T.Z_sorted (xe_fld T.W_Groups T.I_Groups T.A_Groups_alive (xe_var 0)))) xm_nil))))) (xg_name nd rfl (Or.inl rfl))
    (pss_cons (ps_dput (hu1 hr) (pv 1) (xe_var 2) (xe_ixR ix_seq imp_ix (of_new (xn_meth (ban := 1000) T.W_Groups T.I_Groups T.H_Groups_near tk G_Groups_near (hr.mono (by decide)) T.B_Groups_near (xe_var 0) (xm_val (xe_var 2) xm_nil))) xe_int (fun _ _ => rfl)) (by rfl))
    pss_nil))
    (pss_cons (ps_fld (pv 0) (pv 1) (by rfl))
    pss_nil))), rt_arg (rt_seq (rt_old (E := EWx cv fun cls d _ H => E cls d H) (fr := false))
    (rt_seq (rt_for (ri_list (E := EWx cv fun cls d _ H => E cls d H))
    (rt_seq (rt_lput (E := EWx cv fun cls d _ H => E cls d H))
    rt_nil))
    (rt_seq (rt_ftake (by decide) T.W_Groups T.I_Groups T.A_Groups_alive)
    rt_nil)))⟩)
theorem ok_Groups_parts (T : Txt K mg cv A) : FnOk P w K mg base (L2.CX P w) 1 A.a_Groups_parts A.d_Groups_parts ["self"] (spP K cv false [false] f_Groups_parts) := by
  have nd := sc_Groups_parts.nd
  exact fn_pure (body := b_Groups_parts) [false] T.F_Groups_parts sc_Groups_parts f_Groups_parts rfl (by decide) rfl (fun cdv AA outer s H E hr => by
    have tk := takes_of (X := cxOf (L2.CX P w) P w K mg base ["self", "found", "cell"] "Groups.parts" (defScope s_Groups_parts) A.a_Groups_parts cdv AA outer s H E) rfl rfl rfl rfl
    exact (pss_imp (pss_cons (ps_set (i := 1) nd rfl (Or.inl rfl) pe_dnewK (by rfl))
    (pss_cons (ps_for (passes_of rfl) rfl (pi_list (of_new (xn_sortDV rfl (hu200 hr) (by rfl) T.Z_sorted (xe_fld T.W_Groups T.I_Groups T.A_Groups_starts (xe_var 0))))) (xg_name nd rfl (Or.inl rfl)) (pss_one (ps_expr (pe_bm PySem.F.plainAttrs_list PySem.F.slot_list_append PySem.F.type_list_append mt_append (pe_bm PySem.F.plainAttrs_dict PySem.F.slot_dict_setdefault PySem.F.type_dict_setdefault mt_setdK (pv 1) (pa_cons (xe_dixV (hu1 hr) (xe_fld T.W_Groups T.I_Groups T.A_Groups_starts (xe_var 0)) (xe_var 2)) (pa_cons (pe_lst pa_nil) pa_nil))) (pa_cons (xe_var 2) pa_nil)))))
    (pss_one (ps_ret (pe_callB (cr_sortedV rfl (hu200 hr)) (by rfl) T.Z_sorted bt_sorted (pa_cons (pe_bm0 PySem.F.plainAttrs_dict PySem.F.slot_dict_values PySem.F.type_dict_values mt_vals (pv 1)) pa_nil)))))) fun C σ H h => group_of (i := 1) (by decide) rfl h))
theorem ok_parts (T : Txt K mg cv A) : FnOk P w K mg base (L2.CX P w) 6 A.a_parts A.d_parts ["told", "live", "many"] (spP K cv false [false, false, false] f_parts) := by
  have G_ask_quiet := ok_ask_quiet (P := P) (w := w) (base := base) (cv := cv) T
  have G_Groups_crowded := ok_Groups_crowded (P := P) (w := w) (base := base) (cv := cv) T
  have G_Groups_parts := ok_Groups_parts (P := P) (w := w) (base := base) (cv := cv) T
  have G_Groups_merged := ok_Groups_merged (P := P) (w := w) (base := base) (cv := cv) T
  have G_Groups_go_on := ok_Groups_go_on (P := P) (w := w) (base := base) (cv := cv) T
  have G_Groups___init := ok_Groups___init (P := P) (w := w) (base := base) (cv := cv) T
  have nd := sc_parts.nd
  exact fn_pure (body := b_parts) [false, false, false] T.F_parts sc_parts f_parts rfl (by decide) rfl (fun cdv AA outer s H E hr => by
    have tk := takes_of (X := cxOf (L2.CX P w) P w K mg base ["told", "live", "many", "groups", "joins", "turn", "cell"] "parts" (defScope s_parts) A.a_parts cdv AA outer s H E) rfl rfl rfl rfl
    exact (xs_cons (xs_expr (xe_call (ban := 1000) tk G_ask_quiet (hr.mono (by decide)) (by rfl) T.M_ask_quiet T.F_ask_quiet.kp T.B_ask_quiet (xm_val (xe_var 0) xm_nil)))
    (xs_regM (i := 3) (by decide) T.W_Groups T.J_Groups tk G_Groups___init (hr.mono (by decide)) (by rfl) T.N_Groups T.B_Groups___init (xa_cons (xe_var 0) (xa_cons (xe_var 1) xa_nil)) nd rfl (Or.inl rfl)
    (pss_cons (xs_setO (i := 4) nd rfl (Or.inl rfl) (xn_lst xa_nil))
    (pss_cons (ps_for (passes_of rfl) rfl (pi_range1 (by rfl) T.Z_range (pa_cons (xe_var 2) pa_nil)) (xg_name nd rfl (Or.inl rfl))
    (pss_cons (ps_for (passes_of rfl) rfl (pi_list (pe_lks (of_new (xn_meth0 T.W_Groups T.I_Groups T.H_Groups_crowded tk G_Groups_crowded (hr.mono (by decide)) T.B_Groups_crowded (xe_var 3))))) (xg_name nd rfl (Or.inl rfl))
    (pss_cons (ps_if (pt_val (pe_methR (cv := cv) (pv 3) T.I_Groups T.H_Groups_merged tk G_Groups_merged (hr.mono (by decide)) T.B_Groups_merged (xa_cons (xe_var 6) xa_nil)))
    (pss_cons (xs_append (i := 4) rfl (Or.inl rfl) (xe_tup (xa_cons (xe_var 5) (xa_cons (xe_var 6) xa_nil))) (pe_bm PySem.F.plainAttrs_list PySem.F.slot_list_append PySem.F.type_list_append mt_append (pv 4) (pa_cons (xe_tup (xa_cons (xe_var 5) (xa_cons (xe_var 6) xa_nil))) pa_nil)))
    pss_nil)
    pss_nil)
    pss_nil))
    (pss_cons (ps_expr (pe_methR0 (cv := cv) (pv 3) T.I_Groups T.H_Groups_go_on tk G_Groups_go_on (hr.mono (by decide)) T.B_Groups_go_on))
    pss_nil)))
    (pss_cons (ps_ret (xe_tup (xa_cons (xe_meth0 T.W_Groups T.I_Groups T.H_Groups_parts tk G_Groups_parts (hr.mono (by decide)) T.B_Groups_parts (xe_var 3)) (xa_cons (of_new (xn_take 4)) xa_nil))))
    pss_nil)))
    (rt_seq (rt_old (E := EWx cv fun cls d _ H => E cls d H) (fr := false))
    (rt_seq (rt_for (ri_rng1 (E := EWx cv fun cls d _ H => E cls d H))
    (rt_seq (rt_for (ri_listK (E := EWx cv fun cls d _ H => E cls d H))
    (rt_seq (rt_ifM T.W_Groups (rt_seq (rt_old (E := EWx cv fun cls d _ H => E cls d H) (fr := false))
    rt_nil)
    rt_nil)
    rt_nil))
    (rt_seq (rt_call T.W_Groups)
    rt_nil)))
    (rt_seq (rt_ret (E := EWx cv fun cls d _ H => E cls d H))
    rt_nil))))))
theorem ok_law_pen (T : Txt K mg cv A) : FnOk P w K mg base (L2.CX P w) 1 A.a_law_pen A.d_law_pen ["_law_script", "_law_k"] (spP K cv true [false, false] f_law_pen) := by
  have nd := sc_law_pen.nd
  exact fn_pure (body := b_law_pen) [false, false] T.F_law_pen sc_law_pen f_law_pen rfl (by decide) rfl (fun cdv AA outer s H E hr => by
    have tk := takes_of (X := cxOf (L2.CX P w) P w K mg base ["_law_script", "_law_k", "_law_cell"] "_law_pen" (defScope s_law_pen) A.a_law_pen cdv AA outer s H E) rfl rfl rfl rfl
    exact (xs_cons (xs_set (i := 2) nd rfl (Or.inl rfl) (xe_op2R op_addAll imp_add (xe_op2R op_mulA (imp_I fun _ _ _ => .int _) xe_int (xe_var 1)) xe_int))
    (xs_cons (xs_if (xt_cmp (op_ltAll hr.units0) imp_lt (xe_var 1) (xe_callB call_lenAll imp_len (by rfl) T.Z_len bt_len (xa_cons (xe_var 0) xa_nil)) (nomark _))
    (xs_one (xs_set (i := 2) nd rfl (Or.inl rfl) (xe_ixR ix_seq imp_ix (xe_var 0) (xe_var 1) (fun _ _ => rfl))))
    (xs_one (xs_if (xt_cmp op_gt (imp_I0 fun _ _ _ => .bl _) (xe_callB call_lenAll imp_len (by rfl) T.Z_len bt_len (xa_cons (xe_var 0) xa_nil)) xe_int (nomark _))
    (xs_one (xs_set (i := 2) nd rfl (Or.inl rfl) (xe_op2R op_addAll imp_add (xe_op2R op_mod (imp_I fun _ _ _ => .int _) (xe_ixR ix_seq imp_ix (xe_var 0) (xe_op2R op_mod (imp_I fun _ _ _ => .int _) (xe_var 1) (xe_callB call_lenAll imp_len (by rfl) T.Z_len bt_len (xa_cons (xe_var 0) xa_nil))) (fun _ _ => rfl)) xe_int) (xe_op2R op_mulA (imp_I fun _ _ _ => .int _) xe_int (xe_var 1)))))
    xs_nil)))
    (xs_cons (xs_if (xt_cmp op_ge (imp_I0 fun _ _ _ => .bl _) (xe_var 2) (xe_op2R op_pow (imp_I fun _ _ _ => .int _) xe_int xe_int) (nomark _))
    (xs_one (xs_retN (xn_lst (xa_cons (xe_op2R op_sub (imp_I0 fun _ _ _ => .int _) (xe_var 2) (xe_op2R op_pow (imp_I fun _ _ _ => .int _) xe_int xe_int)) (xa_cons (xe_op2R op_mod (imp_I fun _ _ _ => .int _) (xe_var 2) xe_int) (xa_cons xe_int xa_nil))))))
    xs_nil)
    (xs_one (xs_retN (xn_lst (xa_cons xe_int (xa_cons (xe_op2R op_mod (imp_I fun _ _ _ => .int _) (xe_var 2) xe_int) (xa_cons xe_int xa_nil))))))))))
theorem ok_law_draw (T : Txt K mg cv A) : FnOk P w K mg base (L2.CX P w) 1 A.a_law_draw A.d_law_draw ["_law_pen_here", "_law_many"] (spB K cv false [false] f_law_draw) := by
  have nd := sc_law_draw.nd
  exact fn_bor (body := b_law_draw) [false] T.F_law_draw sc_law_draw f_law_draw rfl (by decide) rfl (fun cdv AA outer s H E hr => by
    have tk := takes_of (X := cxOf (L2.CX P w) P w K mg base ["_law_pen_here", "_law_many", "_law_drawn", "_law_number_here"] "_law_draw" (defScope s_law_draw) A.a_law_draw cdv AA outer s H E) rfl rfl rfl rfl
    exact (xs_cons (xs_setIx (i := 0) rfl (Or.inl rfl) (pv 0) xe_int (xe_op2R op_addAll imp_add (xe_ixO (pv 0) xe_int (fun _ _ => rfl)) xe_int))
    (xs_cons (xs_if (xt_cmp op_gt (imp_I0 fun _ _ _ => .bl _) (xe_ixO (pv 0) xe_int (fun _ _ => rfl)) xe_int (nomark _))
    (xs_cons (xs_set (i := 2) nd rfl (Or.inl rfl) (xe_op2R op_mod (imp_I fun _ _ _ => .int _) (xe_ixO (pv 0) xe_int (fun _ _ => rfl)) (xe_var 1)))
    (xs_cons (xs_setIx (i := 0) rfl (Or.inl rfl) (pv 0) xe_int (xe_op2R op_fdivW (imp_I fun _ _ _ => .int _) (xe_ixO (pv 0) xe_int (fun _ _ => rfl)) (xe_var 1)))
    (xs_one (xs_ret (xe_var 2)))))
    xs_nil)
    (xs_cons (xs_set (i := 3) nd rfl (Or.inl rfl) (xe_op2R op_mod (imp_I fun _ _ _ => .int _) (xe_op2R op_addAll imp_add (xe_op2R op_addAll imp_add (xe_ixO (pv 0) xe_int (fun _ _ => rfl)) (xe_op2R op_mulA (imp_I fun _ _ _ => .int _) xe_int (xe_ixO (pv 0) xe_int (fun _ _ => rfl)))) xe_int) xe_int))
    (xs_cons (xs_set (i := 3) nd rfl (Or.inl rfl) (xe_op2R op_addAll imp_add (xe_op2R op_mod (imp_I fun _ _ _ => .int _) (xe_op2R op_mulA (imp_I fun _ _ _ => .int _) (xe_var 3) (xe_var 3)) xe_int) (xe_op2R op_mulA (imp_I fun _ _ _ => .int _) xe_int (xe_ixO (pv 0) xe_int (fun _ _ => rfl)))))
    (xs_cons (xs_set (i := 3) nd rfl (Or.inl rfl) (xe_op2R op_mod (imp_I fun _ _ _ => .int _) (xe_op2R op_mulA (imp_I fun _ _ _ => .int _) (xe_var 3) (xe_var 3)) xe_int))
    (xs_one (xs_ret (xe_op2R op_mod (imp_I fun _ _ _ => .int _) (xe_op2R op_fdivW (imp_I fun _ _ _ => .int _) (xe_var 3) xe_int) (xe_var 1))))))))))
theorem ok_law_number (T : Txt K mg cv A) : FnOk P w K mg base (L2.CX P w) 2 A.a_law_number A.d_law_number ["_law_pen_here"] (spB K cv false [] f_law_number) := by
  have G_law_draw := ok_law_draw (P := P) (w := w) (base := base) (cv := cv) T
  have nd := sc_law_number.nd
  exact fn_bor (body := b_law_number) [] T.F_law_number sc_law_number f_law_number rfl (by decide) rfl (fun cdv AA outer s H E hr => by
    have tk := takes_of (X := cxOf (L2.CX P w) P w K mg base ["_law_pen_here", "_law_way", "_law_far"] "_law_number" (defScope s_law_number) A.a_law_number cdv AA outer s H E) rfl rfl rfl rfl
    exact (xs_cons (xs_set (i := 1) nd rfl (Or.inl rfl) (xe_callBor tk G_law_draw (hr.mono (by decide)) (by rfl) T.M_law_draw T.F_law_draw.kp T.B_law_draw (pv 0) (xm_val xe_int xm_nil)))
    (xs_cons (xs_if (xt_cmp (op_ltAll hr.units0) imp_lt (xe_var 1) xe_int (nomark _))
    (xs_one (xs_ret (xe_op2R op_sub (imp_I0 fun _ _ _ => .int _) (xe_callBor tk G_law_draw (hr.mono (by decide)) (by rfl) T.M_law_draw T.F_law_draw.kp T.B_law_draw (pv 0) (xm_val xe_int xm_nil)) xe_int)))
    xs_nil)
    (xs_cons (xs_if (xt_cmp (op_eqD hr.units) imp_eq (xe_var 1) xe_int (nomark _))
    (xs_one (xs_ret (xe_op2R op_sub (imp_I0 fun _ _ _ => .int _) (xe_callBor tk G_law_draw (hr.mono (by decide)) (by rfl) T.M_law_draw T.F_law_draw.kp T.B_law_draw (pv 0) (xm_val (xe_op2R op_pow (imp_I fun _ _ _ => .int _) xe_int xe_int) xm_nil)) (xe_op2R op_mulA (imp_I fun _ _ _ => .int _) xe_int (xe_op2R op_pow (imp_I fun _ _ _ => .int _) xe_int xe_int)))))
    xs_nil)
    (xs_cons (xs_set (i := 2) nd rfl (Or.inl rfl) (xe_op2R op_sub (imp_I0 fun _ _ _ => .int _) (xe_ixR ix_seq imp_ix (of_new (xn_lst (xa_cons (xe_op2R op_pow (imp_I fun _ _ _ => .int _) xe_int xe_int) (xa_cons (xe_op2R op_sub (imp_I0 fun _ _ _ => .int _) (xe_op2R op_pow (imp_I fun _ _ _ => .int _) xe_int xe_int) xe_int) xa_nil)))) (xe_op2R op_sub (imp_I0 fun _ _ _ => .int _) (xe_var 1) xe_int) (fun _ _ => rfl)) (xe_callBor tk G_law_draw (hr.mono (by decide)) (by rfl) T.M_law_draw T.F_law_draw.kp T.B_law_draw (pv 0) (xm_val xe_int xm_nil))))
    (xs_one (xs_ret (xe_op2R op_mulA (imp_I fun _ _ _ => .int _) (xe_var 2) (xe_op2R op_sub (imp_I0 fun _ _ _ => .int _) xe_int (xe_op2R op_mulA (imp_I fun _ _ _ => .int _) xe_int (xe_callBor tk G_law_draw (hr.mono (by decide)) (by rfl) T.M_law_draw T.F_law_draw.kp T.B_law_draw (pv 0) (xm_val xe_int xm_nil))))))))))))
theorem ok_law_rule (T : Txt K mg cv A) : FnOk P w K mg base (L2.CX P w) 2 A.a_law_rule A.d_law_rule ["_law_pen_here"] (spB K cv false [] f_law_rule) := by
  have G_law_draw := ok_law_draw (P := P) (w := w) (base := base) (cv := cv) T
  have nd := sc_law_rule.nd
  exact fn_bor (body := b_law_rule) [] T.F_law_rule sc_law_rule f_law_rule rfl (by decide) rfl (fun cdv AA outer s H E hr => by
    have tk := takes_of (X := cxOf (L2.CX P w) P w K mg base ["_law_pen_here", "_law_kind", "_law_least", "_law_born", "_law_count"] "_law_rule" (defScope s_law_rule) A.a_law_rule cdv AA outer s H E) rfl rfl rfl rfl
    exact (xs_cons (xs_set (i := 1) nd rfl (Or.inl rfl) (xe_ixR ix_seq imp_ix (of_new (xn_lst (xa_cons xe_int (xa_cons xe_int (xa_cons xe_int xa_nil))))) (xe_callBor tk G_law_draw (hr.mono (by decide)) (by rfl) T.M_law_draw T.F_law_draw.kp T.B_law_draw (pv 0) (xm_val xe_int xm_nil)) (fun _ _ => rfl)))
    (xs_cons (xs_if (xt_cmp (op_eqD hr.units) imp_eq (xe_callBor tk G_law_draw (hr.mono (by decide)) (by rfl) T.M_law_draw T.F_law_draw.kp T.B_law_draw (pv 0) (xm_val xe_int xm_nil)) xe_int (nomark _))
    (xs_cons (xs_set (i := 2) nd rfl (Or.inl rfl) (xe_ixR ix_seq imp_ix (xe_ixR ix_seq imp_ix (of_new (xn_lst (xa_cons (of_new (xn_lst (xa_cons xe_int (xa_cons xe_int xa_nil)))) (xa_cons (of_new (xn_lst (xa_cons xe_int (xa_cons xe_int xa_nil)))) (xa_cons (of_new (xn_lst (xa_cons xe_int (xa_cons xe_int xa_nil)))) xa_nil))))) (xe_op2R op_sub (imp_I0 fun _ _ _ => .int _) (xe_op2R op_fdivW (imp_I fun _ _ _ => .int _) (xe_var 1) xe_int) xe_int) (fun _ _ => rfl)) (xe_callBor tk G_law_draw (hr.mono (by decide)) (by rfl) T.M_law_draw T.F_law_draw.kp T.B_law_draw (pv 0) (xm_val xe_int xm_nil)) (fun _ _ => rfl)))
    (xs_cons (xs_set (i := 3) nd rfl (Or.inl rfl) (xe_op2R op_addAll imp_add (of_new (xn_lst (xa_cons (xe_var 2) xa_nil))) (of_new (xn_lc (own := [("_law_count", 4)]) rfl nd (xi_range2 (by rfl) T.Z_range (xe_op2R op_addAll imp_add (xe_var 2) xe_int) (xe_op2R op_addAll imp_add (xe_var 1) xe_int)) (blkOk_by (own := [("_law_count", 4)]) (N := ["_law_pen_here", "_law_kind", "_law_least", "_law_born", "_law_count"]) (sc := defScope s_law_rule) (by decide +kernel)) (fun _ _ _ _ _ => (xg_nameW nd rfl (Or.inl rfl))) (fun _ _ _ _ _ => (xts_one (xt_cmp (op_eqD hr.units) imp_eq (xe_callBor takes0 G_law_draw (hr.mono (by decide)) (by rfl) T.M_law_draw T.F_law_draw.kp T.B_law_draw (pv 0) (xm_val xe_int xm_nil)) xe_int (nomark _)))) (fun _ _ _ _ _ => (xe_var 4))))))
    (xs_one (xs_ret (xe_tup (xa_cons (xe_var 1) (xa_cons (xe_callT call_tuple_of imp_tuple (by rfl) T.Z_tuple bt_tuple (xa_cons (xe_var 3) xa_nil)) (xa_cons (xe_callT call_tuple_of imp_tuple (by rfl) T.Z_tuple bt_tuple (xa_cons (of_new (xn_lc (own := [("_law_count", 4)]) rfl nd (xi_range1 (by rfl) T.Z_range (xe_op2R op_addAll imp_add (xe_var 1) xe_int)) (blkOk_by (own := [("_law_count", 4)]) (N := ["_law_pen_here", "_law_kind", "_law_least", "_law_born", "_law_count"]) (sc := defScope s_law_rule) (by decide +kernel)) (fun _ _ _ _ _ => (xg_nameW nd rfl (Or.inl rfl))) (fun _ _ _ _ _ => (xts_one (xt_cmp op_gt (imp_I0 fun _ _ _ => .bl _) (xe_callBor takes0 G_law_draw (hr.mono (by decide)) (by rfl) T.M_law_draw T.F_law_draw.kp T.B_law_draw (pv 0) (xm_val xe_int xm_nil)) xe_int (nomark _)))) (fun _ _ _ _ _ => (xe_var 4)))) xa_nil)) xa_nil))))))))
    xs_nil)
    (xs_cons (xs_setLc (i := 3) (own := [("_law_count", 4)]) (by decide) rfl nd rfl rfl (sw_true rfl rfl rfl (by decide +kernel)) (xi_range2 (by rfl) T.Z_range xe_int (xe_op2R op_addAll imp_add (xe_var 1) xe_int)) (blkOk_by (own := [("_law_count", 4)]) (N := ["_law_pen_here", "_law_kind", "_law_least", "_law_born", "_law_count"]) (sc := defScope s_law_rule) (by decide +kernel)) (fun _ _ _ _ _ => (xg_nameW nd rfl (Or.inl rfl))) (fun _ _ _ _ _ => (xts_one (xt_cmp (op_eqD hr.units) imp_eq (xe_callBor takes0 G_law_draw (hr.mono (by decide)) (by rfl) T.M_law_draw T.F_law_draw.kp T.B_law_draw (pv 0) (xm_val xe_int xm_nil)) xe_int (nomark _)))) (fun _ _ _ _ _ => (xe_var 4)))
    (xs_one (xs_ret (xe_tup (xa_cons (xe_var 1) (xa_cons (xe_callT call_tuple_of imp_tuple (by rfl) T.Z_tuple bt_tuple (xa_cons (xe_var 3) xa_nil)) (xa_cons (xe_callT call_tuple_of imp_tuple (by rfl) T.Z_tuple bt_tuple (xa_cons (of_new (xn_lc (own := [("_law_count", 4)]) rfl nd (xi_range1 (by rfl) T.Z_range (xe_op2R op_addAll imp_add (xe_var 1) xe_int)) (blkOk_by (own := [("_law_count", 4)]) (N := ["_law_pen_here", "_law_kind", "_law_least", "_law_born", "_law_count"]) (sc := defScope s_law_rule) (by decide +kernel)) (fun _ _ _ _ _ => (xg_nameW nd rfl (Or.inl rfl))) (fun _ _ _ _ _ => (xts_one (xt_cmp (op_eqD hr.units) imp_eq (xe_callBor takes0 G_law_draw (hr.mono (by decide)) (by rfl) T.M_law_draw T.F_law_draw.kp T.B_law_draw (pv 0) (xm_val xe_int xm_nil)) xe_int (nomark _)))) (fun _ _ _ _ _ => (xe_var 4)))) xa_nil)) xa_nil))))))))))
theorem ok_law_picture (T : Txt K mg cv A) : FnOk P w K mg base (L2.CX P w) 3 A.a_law_picture A.d_law_picture ["_law_pen_here"] (spB K cv true [] f_law_picture) := by
  have G_law_draw := ok_law_draw (P := P) (w := w) (base := base) (cv := cv) T
  have G_law_number := ok_law_number (P := P) (w := w) (base := base) (cv := cv) T
  have nd := sc_law_picture.nd
  exact fn_bor (body := b_law_picture) [] T.F_law_picture sc_law_picture f_law_picture rfl (by decide) rfl (fun cdv AA outer s H E hr => by
    have tk := takes_of (X := cxOf (L2.CX P w) P w K mg base ["_law_pen_here", "_law_far", "_law_cells", "_law_k", "_law_x", "_law_y", "_law_j"] "_law_picture" (defScope s_law_picture) A.a_law_picture cdv AA outer s H E) rfl rfl rfl rfl
    exact (xs_cons (xs_set (i := 1) nd rfl (Or.inl rfl) (xe_tup (xa_cons xe_int (xa_cons xe_int xa_nil))))
    (xs_cons (xs_if (xt_cmp (op_eqD hr.units) imp_eq (xe_callBor tk G_law_draw (hr.mono (by decide)) (by rfl) T.M_law_draw T.F_law_draw.kp T.B_law_draw (pv 0) (xm_val xe_int xm_nil)) xe_int (nomark _))
    (xs_one (xs_set (i := 1) nd rfl (Or.inl rfl) (xe_tup (xa_cons (xe_callBor tk G_law_number (hr.mono (by decide)) (by rfl) T.M_law_number T.F_law_number.kp T.B_law_number (pv 0) xm_nil) (xa_cons (xe_callBor tk G_law_number (hr.mono (by decide)) (by rfl) T.M_law_number T.F_law_number.kp T.B_law_number (pv 0) xm_nil) xa_nil)))))
    xs_nil)
    (xs_cons (xs_setO (i := 2) nd rfl (Or.inl rfl) (xn_lst xa_nil))
    (xs_cons (xs_for (passes_of rfl) rfl (xi_range1 (by rfl) T.Z_range (xe_ixR ix_seq imp_ix (of_new (xn_lst (xa_cons xe_int (xa_cons xe_int (xa_cons xe_int (xa_cons xe_int (xa_cons xe_int (xa_cons xe_int xa_nil)))))))) (xe_callBor tk G_law_draw (hr.mono (by decide)) (by rfl) T.M_law_draw T.F_law_draw.kp T.B_law_draw (pv 0) (xm_val xe_int xm_nil)) (fun _ _ => rfl))) (xg_name nd rfl (Or.inl rfl))
    (xs_cons (xs_set (i := 4) nd rfl (Or.inl rfl) (xe_op2R op_addAll imp_add (xe_ixR ix_seq imp_ix (xe_var 1) xe_int (fun _ _ => rfl)) (xe_callBor tk G_law_draw (hr.mono (by decide)) (by rfl) T.M_law_draw T.F_law_draw.kp T.B_law_draw (pv 0) (xm_val xe_int xm_nil))))
    (xs_cons (xs_set (i := 5) nd rfl (Or.inl rfl) (xe_op2R op_addAll imp_add (xe_ixR ix_seq imp_ix (xe_var 1) xe_int (fun _ _ => rfl)) (xe_callBor tk G_law_draw (hr.mono (by decide)) (by rfl) T.M_law_draw T.F_law_draw.kp T.B_law_draw (pv 0) (xm_val xe_int xm_nil))))
    (xs_one (xs_for (passes_of rfl) rfl (xi_range1 (by rfl) T.Z_range (xe_op2R op_addAll imp_add xe_int (xe_callBor tk G_law_draw (hr.mono (by decide)) (by rfl) T.M_law_draw T.F_law_draw.kp T.B_law_draw (pv 0) (xm_val xe_int xm_nil)))) (xg_name nd rfl (Or.inl rfl))
    (xs_one (xs_append (i := 2) rfl (Or.inl rfl) (xe_tup (xa_cons (xe_op2R op_addAll imp_add (xe_var 4) (xe_callBor tk G_law_draw (hr.mono (by decide)) (by rfl) T.M_law_draw T.F_law_draw.kp T.B_law_draw (pv 0) (xm_val xe_int xm_nil))) (xa_cons (xe_op2R op_addAll imp_add (xe_var 5) (xe_callBor tk G_law_draw (hr.mono (by decide)) (by rfl) T.M_law_draw T.F_law_draw.kp T.B_law_draw (pv 0) (xm_val xe_int xm_nil))) xa_nil))) (pe_bm PySem.F.plainAttrs_list PySem.F.slot_list_append PySem.F.type_list_append mt_append (pv 2) (pa_cons (xe_tup (xa_cons (xe_op2R op_addAll imp_add (xe_var 4) (xe_callBor tk G_law_draw (hr.mono (by decide)) (by rfl) T.M_law_draw T.F_law_draw.kp T.B_law_draw (pv 0) (xm_val xe_int xm_nil))) (xa_cons (xe_op2R op_addAll imp_add (xe_var 5) (xe_callBor tk G_law_draw (hr.mono (by decide)) (by rfl) T.M_law_draw T.F_law_draw.kp T.B_law_draw (pv 0) (xm_val xe_int xm_nil))) xa_nil))) pa_nil)))))))))
    (xs_one (xs_retN (xn_sortedSetG rfl (hu200 hr) (by rfl) T.Z_sorted (by rfl) T.Z_set (of_new (xn_take 2))))))))))
theorem ok_law_near (T : Txt K mg cv A) : FnOk P w K mg base (L2.CX P w) 1 A.a_law_near A.d_law_near ["_law_kind", "_law_cell"] (spP K cv true [false, false] f_law_near) := by
  have nd := sc_law_near.nd
  exact fn_pure (body := b_law_near) [false, false] T.F_law_near sc_law_near f_law_near rfl (by decide) rfl (fun cdv AA outer s H E hr => by
    have tk := takes_of (X := cxOf (L2.CX P w) P w K mg base ["_law_kind", "_law_cell", "_law_found", "_law_dx", "_law_dy"] "_law_near" (defScope s_law_near) A.a_law_near cdv AA outer s H E) rfl rfl rfl rfl
    exact (xs_cons (xs_setO (i := 2) nd rfl (Or.inl rfl) (xn_lst xa_nil))
    (xs_cons (xs_for (passes_of rfl) rfl (xi_seq (xe_tup (xa_cons (xe_un un_neg imp_neg xe_int) (xa_cons xe_int (xa_cons xe_int xa_nil))))) (xg_name nd rfl (Or.inl rfl))
    (xs_one (xs_for (passes_of rfl) rfl (xi_seq (xe_tup (xa_cons (xe_un un_neg imp_neg xe_int) (xa_cons xe_int (xa_cons xe_int xa_nil))))) (xg_name nd rfl (Or.inl rfl))
    (xs_one (xs_if (PW.pt (xw_or (xt_cmp (op_eqD hr.units) imp_eq (xe_var 0) xe_int (nomark _)) (xw_or (xt_cmp (op_eqD hr.units) imp_eq (xe_op2R op_mulA (imp_I fun _ _ _ => .int _) (xe_var 3) (xe_var 4)) xe_int (nomark _)) (xw_or1 (PW.pt (xw_and (xt_cmp (op_eqD hr.units) imp_eq (xe_var 0) xe_int (nomark _)) (xw_and1 (xt_cmp (op_eqD hr.units) imp_eq (xe_var 3) (xe_var 4) (nomark _)))))))))
    (xs_one (xs_append (i := 2) rfl (Or.inl rfl) (xe_tup (xa_cons (xe_op2R op_addAll imp_add (xe_ixR ix_seq imp_ix (xe_var 1) xe_int (fun _ _ => rfl)) (xe_var 3)) (xa_cons (xe_op2R op_addAll imp_add (xe_ixR ix_seq imp_ix (xe_var 1) xe_int (fun _ _ => rfl)) (xe_var 4)) xa_nil))) (pe_bm PySem.F.plainAttrs_list PySem.F.slot_list_append PySem.F.type_list_append mt_append (pv 2) (pa_cons (xe_tup (xa_cons (xe_op2R op_addAll imp_add (xe_ixR ix_seq imp_ix (xe_var 1) xe_int (fun _ _ => rfl)) (xe_var 3)) (xa_cons (xe_op2R op_addAll imp_add (xe_ixR ix_seq imp_ix (xe_var 1) xe_int (fun _ _ => rfl)) (xe_var 4)) xa_nil))) pa_nil))))
    xs_nil)))))
    (xs_one (xs_retN (xn_take 2))))))
theorem ok_law_next (T : Txt K mg cv A) : FnOk P w K mg base (L2.CX P w) 2 A.a_law_next A.d_law_next ["_law_by", "_law_live"] (spP K cv true [false, false] f_law_next) := by
  have G_law_near := ok_law_near (P := P) (w := w) (base := base) (cv := cv) T
  have nd := sc_law_next.nd
  exact fn_pure (body := b_law_next) [false, false] T.F_law_next sc_law_next f_law_next rfl (by decide) rfl (fun cdv AA outer s H E hr => by
    have tk := takes_of (X := cxOf (L2.CX P w) P w K mg base ["_law_by", "_law_live", "_law_here", "_law_sums", "_law_cell", "_law_one"] "_law_next" (defScope s_law_next) A.a_law_next cdv AA outer s H E) rfl rfl rfl rfl
    exact (xs_cons (xs_setO (i := 2) nd rfl (Or.inr rfl) xn_dnewT)
    (xs_cons (xs_setO (i := 3) nd rfl (Or.inr rfl) xn_dnewT)
    (xs_cons (xs_for (passes_of rfl) rfl (xi_seq (xe_var 1)) (xg_name nd rfl (Or.inl rfl))
    (xs_cons (xs_dput (i := 2) (hu1 hr) (pv 2) (xe_var 4) xe_bl)
    (xs_one (xs_for (passes_of rfl) rfl (xi_seq (of_new (xn_call (ban := 1000) tk G_law_near (hr.mono (by decide)) (by rfl) T.M_law_near T.F_law_near.kp T.B_law_near (xm_val (xe_ixR ix_seq imp_ix (xe_var 0) xe_int (fun _ _ => rfl)) (xm_val (xe_var 4) xm_nil))))) (xg_name nd rfl (Or.inl rfl))
    (xs_one (xs_dput (i := 3) (hu1 hr) (pv 3) (xe_var 5) (xe_op2R op_addAll imp_add (xe_dget2 (hu1 hr) (pv 3) (xe_var 5) xe_int) (xe_callT call_int1 imp_int (by rfl) T.Z_int bt_int (xa_cons (xe_cmp (op_neD hr.units) imp_ne (xe_var 5) (xe_var 4) (nomark _)) xa_nil)))))))))
    (xs_one (xs_retN (xn_callB (cr_sortedD (hu200 hr)) imp_sorted (by rfl) T.Z_sorted bt_sorted (xa_cons (of_new (xn_frz 3 (xn_lock 3 (xn_lc (own := [("_law_one", 5)]) rfl nd (xi_keys (pv 3)) (blkOk_by (own := [("_law_one", 5)]) (N := ["_law_by", "_law_live", "_law_here", "_law_sums", "_law_cell", "_law_one"]) (sc := defScope s_law_next) (by decide +kernel)) (fun _ _ _ _ _ => (xg_nameW nd rfl (Or.inl rfl))) (fun _ _ _ _ _ => (xts_one (xt_cmp (op_inX (hu65 hr)) imp_inX (xe_dix (hu1 hr) (pv 3) (xe_var 5)) (xe_ixR ix_seq imp_ix (xe_var 0) (xe_op2R op_addAll imp_add xe_int (xe_callT call_int1 imp_int (by rfl) T.Z_int bt_int (xa_cons (xe_cmpO (op_inX (hu65 hr)) imp_inX (xe_var 5) (pv 2) (by rfl)) xa_nil))) (fun _ _ => rfl)) (by rfl)))) (fun _ _ _ _ _ => (xe_var 5)))))) xa_nil))))))))
theorem ok_law_touch (T : Txt K mg cv A) : FnOk P w K mg base (L2.CX P w) 2 A.a_law_touch A.d_law_touch ["_law_kind", "_law_one", "_law_other"] (spP K cv false [false, false, false] f_law_touch) := by
  have G_law_near := ok_law_near (P := P) (w := w) (base := base) (cv := cv) T
  have nd := sc_law_touch.nd
  exact fn_pure (body := b_law_touch) [false, false, false] T.F_law_touch sc_law_touch f_law_touch rfl (by decide) rfl (fun cdv AA outer s H E hr => by
    have tk := takes_of (X := cxOf (L2.CX P w) P w K mg base ["_law_kind", "_law_one", "_law_other", "_law_near_here", "_law_cell", "_law_step"] "_law_touch" (defScope s_law_touch) A.a_law_touch cdv AA outer s H E) rfl rfl rfl rfl
    exact (xs_cons (xs_setO (i := 3) nd rfl (Or.inr rfl) xn_dnewT)
    (xs_cons (xs_for (passes_of rfl) rfl (xi_seq (xe_var 1)) (xg_name nd rfl (Or.inl rfl))
    (xs_one (xs_for (passes_of rfl) rfl (xi_seq (of_new (xn_call (ban := 1000) tk G_law_near (hr.mono (by decide)) (by rfl) T.M_law_near T.F_law_near.kp T.B_law_near (xm_val (xe_var 0) (xm_val (xe_var 4) xm_nil))))) (xg_name nd rfl (Or.inl rfl))
    (xs_one (xs_dput (i := 3) (hu1 hr) (pv 3) (xe_var 5) xe_bl)))))
    (xs_cons (xs_for (passes_of rfl) rfl (xi_seq (xe_var 2)) (xg_name nd rfl (Or.inl rfl))
    (xs_one (xs_if (xt_val (xe_callB (cr_any rfl) imp_any (by rfl) T.Z_any bt_any (xa_cons (of_new (xn_lc (own := [("_law_step", 5)]) rfl nd (xi_seq (of_new (xn_call (ban := 1000) tk G_law_near (hr.mono (by decide)) (by rfl) T.M_law_near T.F_law_near.kp T.B_law_near (xm_val (xe_var 0) (xm_val (xe_var 4) xm_nil))))) (blkOk_by (own := [("_law_step", 5)]) (N := ["_law_kind", "_law_one", "_law_other", "_law_near_here", "_law_cell", "_law_step"]) (sc := defScope s_law_touch) (by decide +kernel)) (fun _ _ _ _ _ => (xg_nameW nd rfl (Or.inl rfl))) (fun _ _ _ _ _ => xts_nil) (fun _ _ _ _ _ => (xe_cmpO (op_inX (hu65 hr)) imp_inX (xe_var 5) (pv 3) (by rfl))))) xa_nil)))
    (xs_one (xs_ret xe_bl))
    xs_nil)))
    (xs_one (xs_ret xe_bl))))))
theorem ok_law_meet (T : Txt K mg cv A) : FnOk P w K mg base (L2.CX P w) 3 A.a_law_meet A.d_law_meet ["_law_by", "_law_one", "_law_other", "_law_many"] (spP K cv false [false, false, false, false] f_law_meet) := by
  have G_law_next := ok_law_next (P := P) (w := w) (base := base) (cv := cv) T
  have G_law_touch := ok_law_touch (P := P) (w := w) (base := base) (cv := cv) T
  have nd := sc_law_meet.nd
  exact fn_pure (body := b_law_meet) [false, false, false, false] T.F_law_meet sc_law_meet f_law_meet rfl (by decide) rfl (fun cdv AA outer s H E hr => by
    have tk := takes_of (X := cxOf (L2.CX P w) P w K mg base ["_law_by", "_law_one", "_law_other", "_law_many", "_law_turn"] "_law_meet" (defScope s_law_meet) A.a_law_meet cdv AA outer s H E) rfl rfl rfl rfl
    exact (xs_cons (xs_for (passes_of rfl) rfl (xi_range1 (by rfl) T.Z_range (xe_var 3)) (xg_name nd rfl (Or.inl rfl))
    (xs_cons (xs_if (xt_val (xe_call (ban := 1000) tk G_law_touch (hr.mono (by decide)) (by rfl) T.M_law_touch T.F_law_touch.kp T.B_law_touch (xm_val (xe_ixR ix_seq imp_ix (xe_var 0) xe_int (fun _ _ => rfl)) (xm_val (xe_var 1) (xm_val (xe_var 2) xm_nil)))))
    (xs_one (xs_ret xe_bl))
    xs_nil)
    (xs_cons (xs_set (i := 1) nd rfl (Or.inl rfl) (of_new (xn_call (ban := 1000) tk G_law_next (hr.mono (by decide)) (by rfl) T.M_law_next T.F_law_next.kp T.B_law_next (xm_val (xe_var 0) (xm_val (xe_var 1) xm_nil)))))
    (xs_one (xs_set (i := 2) nd rfl (Or.inl rfl) (of_new (xn_call (ban := 1000) tk G_law_next (hr.mono (by decide)) (by rfl) T.M_law_next T.F_law_next.kp T.B_law_next (xm_val (xe_var 0) (xm_val (xe_var 2) xm_nil)))))))))
    (xs_one (xs_ret xe_bl))))
theorem ok_law_cut (T : Txt K mg cv A) : FnOk P w K mg base (L2.CX P w) 1 A.a_law_cut A.d_law_cut ["_law_part", "_law_number_here"] (spP K cv false [false, false] f_law_cut) := by
  have nd := sc_law_cut.nd
  exact fn_pure (body := b_law_cut) [false, false] T.F_law_cut sc_law_cut f_law_cut rfl (by decide) rfl (fun cdv AA outer s H E hr => by
    have tk := takes_of (X := cxOf (L2.CX P w) P w K mg base ["_law_part", "_law_number_here", "_law_one", "_law_other", "_law_cell"] "_law_cut" (defScope s_law_cut) A.a_law_cut cdv AA outer s H E) rfl rfl rfl rfl
    exact (xs_cons (xs_setO (i := 2) nd rfl (Or.inl rfl) (xn_lst xa_nil))
    (xs_cons (xs_setO (i := 3) nd rfl (Or.inl rfl) (xn_lst (xa_cons (xe_ixR ix_seq imp_ix (xe_var 0) xe_int (fun _ _ => rfl)) xa_nil)))
    (xs_cons (xs_for (passes_of rfl) rfl (xi_seq (of_new (xn_slice (xe_var 0) (xp_some xe_int) xp_none))) (xg_name nd rfl (Or.inl rfl))
    (xs_cons (xs_if (xt_cmp (op_eqD hr.units) imp_eq (xe_op2R op_mod (imp_I fun _ _ _ => .int _) (xe_var 1) xe_int) xe_int (nomark _))
    (xs_one (xs_append (i := 2) rfl (Or.inl rfl) (xe_var 4) (pe_bm PySem.F.plainAttrs_list PySem.F.slot_list_append PySem.F.type_list_append mt_append (pv 2) (pa_cons (xe_var 4) pa_nil))))
    (xs_one (xs_append (i := 3) rfl (Or.inl rfl) (xe_var 4) (pe_bm PySem.F.plainAttrs_list PySem.F.slot_list_append PySem.F.type_list_append mt_append (pv 3) (pa_cons (xe_var 4) pa_nil)))))
    (xs_one (xs_set (i := 1) nd rfl (Or.inl rfl) (xe_op2R op_fdivW (imp_I fun _ _ _ => .int _) (xe_var 1) xe_int)))))
    (xs_one (xs_ret (xe_tup (xa_cons (of_new (xn_take 2)) (xa_cons (of_new (xn_take 3)) xa_nil)))))))))
theorem ok_law_holds_together (T : Txt K mg cv A) : FnOk P w K mg base (L2.CX P w) 4 A.a_law_holds_together A.d_law_holds_together ["_law_pen_here", "_law_by", "_law_part", "_law_many"] (spB K cv false [false, false, false] f_law_holds_together) := by
  have G_law_draw := ok_law_draw (P := P) (w := w) (base := base) (cv := cv) T
  have G_law_meet := ok_law_meet (P := P) (w := w) (base := base) (cv := cv) T
  have G_law_cut := ok_law_cut (P := P) (w := w) (base := base) (cv := cv) T
  have nd := sc_law_holds_together.nd
  exact fn_bor (body := b_law_holds_together) [false, false, false] T.F_law_holds_together sc_law_holds_together f_law_holds_together rfl (by decide) rfl (fun cdv AA outer s H E hr => by
    have tk := takes_of (X := cxOf (L2.CX P w) P w K mg base ["_law_pen_here", "_law_by", "_law_part", "_law_many", "_law_ways", "_law_k", "_law_number_here", "_law_one", "_law_other"] "_law_holds_together" (defScope s_law_holds_together) A.a_law_holds_together cdv AA outer s H E) rfl rfl rfl rfl
    exact (xs_cons (xs_set (i := 4) nd rfl (Or.inr rfl) (of_new (xn_listR2 rfl (by rfl) T.Z_list (by rfl) T.Z_range xe_int (xe_op2R op_shl (imp_I fun _ _ _ => .int _) xe_int (xe_op2R op_sub (imp_I0 fun _ _ _ => .int _) (xe_callB call_lenAll imp_len (by rfl) T.Z_len bt_len (xa_cons (xe_var 2) xa_nil)) xe_int)))))
    (xs_cons (xs_if (xt_cmp op_gt (imp_I0 fun _ _ _ => .bl _) (xe_callB call_lenAll imp_len (by rfl) T.Z_len bt_len (xa_cons (xe_var 2) xa_nil)) xe_int (nomark _))
    (xs_one (xs_set (i := 4) nd rfl (Or.inr rfl) (of_new (xn_lc (own := [("_law_k", 5)]) rfl nd (xi_range1 (by rfl) T.Z_range xe_int) (blkOk_by (own := [("_law_k", 5)]) (N := ["_law_pen_here", "_law_by", "_law_part", "_law_many", "_law_ways", "_law_k", "_law_number_here", "_law_one", "_law_other"]) (sc := defScope s_law_holds_together) (by decide +kernel)) (fun _ _ _ _ _ => (xg_nameW nd rfl (Or.inl rfl))) (fun _ _ _ _ _ => xts_nil) (fun _ _ _ _ _ => (xe_op2R op_addAll imp_add xe_int (xe_callBor takes0 G_law_draw (hr.mono (by decide)) (by rfl) T.M_law_draw T.F_law_draw.kp T.B_law_draw (pv 0) (xm_val (xe_callB call_lenAll imp_len (by rfl) T.Z_len bt_len (xa_cons (xe_var 4) xa_nil)) xm_nil))))))))
    xs_nil)
    (xs_cons (xs_for (passes_of rfl) rfl (xi_seq (xe_var 4)) (xg_name nd rfl (Or.inl rfl))
    (xs_cons (xs_asg (xe_call (ban := 1000) tk G_law_cut (hr.mono (by decide)) (by rfl) T.M_law_cut T.F_law_cut.kp T.B_law_cut (xm_val (xe_var 2) (xm_val (xe_var 6) xm_nil))) (xg_tup rfl (xgs_cons (xg_name nd rfl (Or.inl rfl)) (xgs_cons (xg_name nd rfl (Or.inl rfl)) xgs_nil))))
    (xs_one (xs_if (xt_not (xt_val (xe_call (ban := 1000) tk G_law_meet (hr.mono (by decide)) (by rfl) T.M_law_meet T.F_law_meet.kp T.B_law_meet (xm_val (xe_var 1) (xm_val (xe_var 7) (xm_val (xe_var 8) (xm_val (xe_var 3) xm_nil)))))))
    (xs_one (xs_ret xe_bl))
    xs_nil))))
    (xs_one (xs_ret xe_bl))))))
theorem ok_law_together (T : Txt K mg cv A) : FnOk P w K mg base (L2.CX P w) 1 A.a_law_together A.d_law_together ["_law_some"] (spP K cv true [false] f_law_together) := by
  have nd := sc_law_together.nd
  exact fn_pure (body := b_law_together) [false] T.F_law_together sc_law_together f_law_together rfl (by decide) rfl (fun cdv AA outer s H E hr => by
    have tk := takes_of (X := cxOf (L2.CX P w) P w K mg base ["_law_some", "_law_found", "_law_part"] "_law_together" (defScope s_law_together) A.a_law_together cdv AA outer s H E) rfl rfl rfl rfl
    exact (xs_cons (xs_set (i := 1) nd rfl (Or.inl rfl) (of_new (xn_lst xa_nil)))
    (xs_cons (xs_for (passes_of rfl) rfl (xi_seq (xe_var 0)) (xg_name nd rfl (Or.inl rfl))
    (xs_one (xs_set (i := 1) nd rfl (Or.inl rfl) (xe_op2R op_addAll imp_add (xe_var 1) (xe_var 2)))))
    (xs_one (xs_retN (xn_callB (cr_sortedD (hu200 hr)) imp_sorted (by rfl) T.Z_sorted bt_sorted (xa_cons (xe_var 1) xa_nil)))))))
theorem ok_law_long (T : Txt K mg cv A) : FnOk P w K mg base (L2.CX P w) 3 A.a_law_long A.d_law_long ["_law_pen_here", "_law_by", "_law_live", "_law_many"] (spB K cv false [false, false, false] f_law_long) := by
  have G_law_draw := ok_law_draw (P := P) (w := w) (base := base) (cv := cv) T
  have G_law_next := ok_law_next (P := P) (w := w) (base := base) (cv := cv) T
  have nd := sc_law_long.nd
  exact fn_bor (body := b_law_long) [false, false, false] T.F_law_long sc_law_long f_law_long rfl (by decide) rfl (fun cdv AA outer s H E hr => by
    have tk := takes_of (X := cxOf (L2.CX P w) P w K mg base ["_law_pen_here", "_law_by", "_law_live", "_law_many", "_law_most", "_law_shown"] "_law_long" (defScope s_law_long) A.a_law_long cdv AA outer s H E) rfl rfl rfl rfl
    exact (xs_cons (xs_if (xt_cmp op_gt (imp_I0 fun _ _ _ => .bl _) (xe_callBor tk G_law_draw (hr.mono (by decide)) (by rfl) T.M_law_draw T.F_law_draw.kp T.B_law_draw (pv 0) (xm_val xe_int xm_nil)) xe_int (nomark _))
    (xs_one (xs_ret (xe_var 3)))
    xs_nil)
    (xs_cons (xs_set (i := 4) nd rfl (Or.inl rfl) xe_int)
    (xs_cons (xs_set (i := 5) nd rfl (Or.inl rfl) (xe_var 2))
    (xs_cons (xs_while 1000 (passes_of rfl) (PW.pt (xw_and (xt_cmp (op_ltAll hr.units0) imp_lt (xe_var 4) xe_int (nomark _)) (xw_and1 (xt_cmp (op_ltAll hr.units0) imp_lt (xe_callB call_lenAll imp_len (by rfl) T.Z_len bt_len (xa_cons (xe_var 5) xa_nil)) xe_int (nomark _)))))
    (xs_cons (xs_set (i := 5) nd rfl (Or.inl rfl) (of_new (xn_call (ban := 1000) tk G_law_next (hr.mono (by decide)) (by rfl) T.M_law_next T.F_law_next.kp T.B_law_next (xm_val (xe_var 1) (xm_val (xe_var 5) xm_nil)))))
    (xs_one (xs_set (i := 4) nd rfl (Or.inl rfl) (xe_op2R op_addAll imp_add (xe_var 4) xe_int)))))
    (xs_one (xs_ret (xe_callB (call_max2 rfl) imp_max2 (by rfl) T.Z_max bt_max (xa_cons (xe_var 3) (xa_cons (xe_var 4) xa_nil))))))))))
theorem ok_law (T : Txt K mg cv A) : FnOk P w K mg base (L2.CX P w) 7 A.a_law A.d_law ["_law_script"] (spP K cv false [false] f_law) := by
  have G_parts := ok_parts (P := P) (w := w) (base := base) (cv := cv) T
  have G_law_pen := ok_law_pen (P := P) (w := w) (base := base) (cv := cv) T
  have G_law_draw := ok_law_draw (P := P) (w := w) (base := base) (cv := cv) T
  have G_law_rule := ok_law_rule (P := P) (w := w) (base := base) (cv := cv) T
  have G_law_picture := ok_law_picture (P := P) (w := w) (base := base) (cv := cv) T
  have G_law_meet := ok_law_meet (P := P) (w := w) (base := base) (cv := cv) T
  have G_law_holds_together := ok_law_holds_together (P := P) (w := w) (base := base) (cv := cv) T
  have G_law_together := ok_law_together (P := P) (w := w) (base := base) (cv := cv) T
  have G_law_long := ok_law_long (P := P) (w := w) (base := base) (cv := cv) T
  have nd := sc_law.nd
  exact fn_pure (body := b_law) [false] T.F_law sc_law f_law rfl (by decide) rfl (fun cdv AA outer s H E hr => by
    have tk := takes_of (X := cxOf (L2.CX P w) P w K mg base ["_law_script", "_law_k", "_law_pen_here", "_law_by", "_law_live", "_law_many", "_law_some", "_law_at"] "law" (defScope s_law) A.a_law cdv AA outer s H E) rfl rfl rfl rfl
    exact (xs_cons (xs_for (passes_of rfl) rfl (xi_range1 (by rfl) T.Z_range (xe_callB (call_max2 rfl) imp_max2 (by rfl) T.Z_max bt_max (xa_cons xe_int (xa_cons (xe_callB (call_min2 rfl) imp_min2 (by rfl) T.Z_min bt_min (xa_cons xe_int (xa_cons (xe_callB call_lenAll imp_len (by rfl) T.Z_len bt_len (xa_cons (xe_var 0) xa_nil)) xa_nil))) xa_nil)))) (xg_name nd rfl (Or.inl rfl))
    (xs_cons (xs_setO (i := 2) nd rfl (Or.inl rfl) (xn_call (ban := 1000) tk G_law_pen (hr.mono (by decide)) (by rfl) T.M_law_pen T.F_law_pen.kp T.B_law_pen (xm_val (xe_var 0) (xm_val (xe_var 1) xm_nil))))
    (xs_cons (xs_set (i := 3) nd rfl (Or.inl rfl) (xe_callBor tk G_law_rule (hr.mono (by decide)) (by rfl) T.M_law_rule T.F_law_rule.kp T.B_law_rule (pv 2) xm_nil))
    (xs_cons (xs_set (i := 4) nd rfl (Or.inl rfl) (of_new (xn_callBor tk G_law_picture (hr.mono (by decide)) (by rfl) T.M_law_picture T.F_law_picture.kp T.B_law_picture (pv 2) xm_nil)))
    (xs_cons (xs_set (i := 5) nd rfl (Or.inl rfl) (xe_callBor tk G_law_long (hr.mono (by decide)) (by rfl) T.M_law_long T.F_law_long.kp T.B_law_long (pv 2) (xm_val (xe_var 3) (xm_val (xe_var 4) (xm_val (xe_callBor tk G_law_draw (hr.mono (by decide)) (by rfl) T.M_law_draw T.F_law_draw.kp T.B_law_draw (pv 2) (xm_val xe_int xm_nil)) xm_nil)))))
    (xs_cons (xs_set (i := 6) nd rfl (Or.inl rfl) (xe_ixR ix_seq imp_ix (xe_call (ban := 1000) tk G_parts (hr.mono (by decide)) (by rfl) T.M_parts T.F_parts.kp T.B_parts (xm_val (xe_var 3) (xm_val (of_new (xn_callT call_list_of imp_list (by rfl) T.Z_list bt_list (xa_cons (xe_var 4) xa_nil))) (xm_val (xe_var 5) xm_nil)))) xe_int (fun _ _ => rfl)))
    (xs_cons (xs_if (PW.pt (xw_or (xt_cmp (op_neD hr.units) imp_ne (of_new (xn_call (ban := 1000) tk G_law_together (hr.mono (by decide)) (by rfl) T.M_law_together T.F_law_together.kp T.B_law_together (xm_val (xe_var 6) xm_nil))) (xe_var 4) (nomark _)) (xw_or1 (xt_cmp (op_inX (hu65 hr)) imp_inX (of_new (xn_lst xa_nil)) (xe_var 6) (by rfl)))))
    (xs_one (xs_ret xe_bl))
    xs_nil)
    (xs_one (xs_for (passes_of rfl) rfl (xi_range1 (by rfl) T.Z_range (xe_callB call_lenAll imp_len (by rfl) T.Z_len bt_len (xa_cons (xe_var 6) xa_nil))) (xg_name nd rfl (Or.inl rfl))
    (xs_cons (xs_if (xt_not (xt_val (xe_callBor tk G_law_holds_together (hr.mono (by decide)) (by rfl) T.M_law_holds_together T.F_law_holds_together.kp T.B_law_holds_together (pv 2) (xm_val (xe_var 3) (xm_val (xe_ixR ix_seq imp_ix (xe_var 6) (xe_var 7) (fun _ _ => rfl)) (xm_val (xe_var 5) xm_nil))))))
    (xs_one (xs_ret xe_bl))
    xs_nil)
    (xs_one (xs_if (PW.pt (xw_and (xt_cmp op_gt (imp_I0 fun _ _ _ => .bl _) (xe_var 7) xe_int (nomark _)) (xw_and1 (xt_val (xe_call (ban := 1000) tk G_law_meet (hr.mono (by decide)) (by rfl) T.M_law_meet T.F_law_meet.kp T.B_law_meet (xm_val (xe_var 3) (xm_val (xe_ixR ix_seq imp_ix (xe_var 6) (xe_op2R op_sub (imp_I0 fun _ _ _ => .int _) (xe_var 7) xe_int) (fun _ _ => rfl)) (xm_val (xe_ixR ix_seq imp_ix (xe_var 6) (xe_var 7) (fun _ _ => rfl)) (xm_val (xe_var 5) xm_nil)))))))))
    (xs_one (xs_ret xe_bl))
    xs_nil))))))))))))
    (xs_one (xs_ret xe_bl))))
end
local macro_rules | `(tactic| simp! [$ls,*] $[$loc:location]?) => `(tactic| simp only [zaa, zab, zac, zad, zae, zaf, zag, zah, zai, zaj, zak, zal, zam, zan, zao, zap, zaq, zar, zas, zat, zau, zav, zaw, zax, zay, zaz, zaA, zaB, zaC, zaD, zaE, zaF, zaG, zaH, zaI, zaJ, zaK, zaL, zaM, zaN, zaO, zaP, zaQ, zaR, zaS, zaT, zaU, zaV, zaW, zaX, zaY, zaZ, zba, zbb, zbc, zbd, zbe, zbf, zbg, zbh, zbi, zbj, zbk, zbl, zbm, zbn, zbo, zbp, zbq, zbr, zbs, zbt, zbu, zbv, zbw, zbx, zby, zbz, zbA, zbB, zbC, zbD, zbE, zbF, zbG, zbH, zbI, zbJ, zbK, zbL, zbM, zbN, zbO, zbP, zbQ, zbR, zbS, zbT, zbU, zbV, zbW, zbX, zbY, zbZ, zca, zcb, zcc, zcd, zce, zcf, zcg, zch, zci, zcj, zck, zcl, zcm, zcn, zco, zcp, zcq, zcr, zcs, zct, zcu, zcv, zcw, zcx, zcy, zcz, zcA, zcB, zcC, zcD, zcE, zcF, zcG, zcH, zcI, zcJ, zcK, zcL, zcM, zcN, zcO, zcP, zcQ, zcR, zcS, zcT, zcU, zcV, zcW, zcX, zcY, zcZ, zda, zdb, zdc, zdd, zde, zdf, zdg, zdh, zdi, zdj, zdk, zdl, zdm, zdn, zdo, zdp, zdq, zdr, zds, zdt, zdu, zdv, zdw, zdx, zdy, zdz, zdA, zdB, zdC, zdD, zdE, zdF, zdG, zdH, zdI, zdJ, zdK, zdL, zdM, zdN, zdO, zdP, zdQ, zdR, zdS, zdT, zdU, zdV, G.of_f, G.of_t, zdW, zdX, zdY, zdZ, zea, zeb, zec, zed, zee, zef, zeg, zeh, zei, zej, zek, zel, zem, zen, zeo, zep, zeq, zer, zes, zet, zeu, zev, zew, zex, zey, zez, zeA, zeB, zeC, zeD, zeE, zeH, zeI, zeJ, zeK, zeL, zeM, zeN, zeO, zeX, zeY, zeZ, zfa, zfb, zfc, G.sz_1, G.sz_2, G.sz_3, G.sz_4, G.sz_0, zfd, zfk, zfl, zfm, zfv, zfw, G.nc_0, G.nc_1, G.nc_2, G.nc_3, G.nc_4, G.nc_5, G.nc_6, G.nc_7, G.nc_8, G.nc_9, zfx, zfy, zfz, zfA, zfB, zfC, zfD, zfE, zfF, zfG, zfH, zfK, zfL, zfM, zfN, zfO, zgc, zgd, zge, zgf, zgg, zgh, zgi, zgj, zgk, zgl, zgm, zgn, zgo, zgp, zgq, zgr, zgs, zgt, zgu, zgv, zgw, zgx, zgy, zgz, zgA, zgB, zgC, zgD, zgE, zgF, zgG, zgH, zgI, zgJ, zgK, zgL, zgM, zgN, zgO, zgP, zgQ, zgR, zgU, zgV, zgW, zhi, zhj, zhk, zhn, zho, zhp, zhq, zhr, zhu, zhv, zhw, zhJ, zhK, zhY, zjl, zjm, zjr, zkz, zkA, zkB, zkC, zkD, zkE, zkF, zkG, zkL, zlw, zlx, zly, zlz, List.getElem?_cons_zero, List.getElem?_cons_succ, List.set_cons_zero, List.set_cons_succ, G.atI_0, G.atI_1, G.atI_2, G.atI_3, Option.map_some, Option.bind_some, G.eqD_int, G.eqD_cell, G.eqD_bl, List.length_cons, List.length_nil, List.getD_cons_zero, List.getD_cons_succ, Bool.and_true, Bool.and_self, decide_true, decide_false, Bool.not_true, Bool.not_false, List.append_nil, List.nil_append, List.cons_append, if_true, if_false, Bool.false_eq_true, reduceIte, Int.reduceLT, Int.reduceLE, Int.reduceToNat, Int.reducePow, Int.reduceNeg, Int.reduceAdd, Int.reduceSub, Int.reduceMul, Nat.reduceAdd, Int.reduceEq, List.replicate, Nat.reduceSub, and_self, and_true, true_and, $ls,*] $[$loc]?)
open PySem PySem.Spec PyProof.Rows L2 G
theorem draw_is : f_law_draw = fDraw := rfl
theorem pen_is : f_law_pen = fPen := rfl
theorem next_p : f_next_turn = p_next_turn := rfl
/-- the steps of a kind and nought, sorted -/
def n9 : Int → List (Int × Int)
  | 4 => [(-1,0),(0,-1),(0,0),(0,1),(1,0)]
  | 6 => [(-1,-1),(-1,0),(0,-1),(0,0),(0,1),(1,0),(1,1)]
  | _ => [(-1,-1),(-1,0),(-1,1),(0,-1),(0,0),(0,1),(1,-1),(1,0),(1,1)]
theorem n9_len (k : Int) : (n9 k).length ≤ 9 := by
  unfold n9
  split <;> decide
theorem n9_small {k : Int} {d : Int × Int} (h : d ∈ n9 k) : (-1 ≤ d.1 ∧ d.1 ≤ 1) ∧ -1 ≤ d.2 ∧ d.2 ≤ 1 := by
  unfold n9 at h
  split at h <;> (revert d; decide)
theorem n9_near {k : Int} (hk : Kind k) (d : Int × Int) : d ∈ near k ↔ d ∈ n9 k ∧ d ≠ (0, 0) := by
  have : ∀ L M : List (Int × Int), L = M.filter (fun d => decide (d ≠ (0, 0))) → (d ∈ L ↔ d ∈ M ∧ d ≠ (0, 0)) := fun L M e => by
    rw [e, List.mem_filter, decide_eq_true_eq]
  rcases hk with rfl | rfl | rfl
  · exact this _ _ (by decide)
  · exact this _ _ (by decide)
  · exact this _ _ (by decide)
theorem hangs_is {k : Int} (hk : Kind k) : f_hangs_on [.int k, .tup [.int 0, .int 0]] = .ok (cells (n9 k)) [] := by
  rcases hk with rfl | rfl | rfl
  · kernel_rfl
  · kernel_rfl
  · kernel_rfl
theorem near_is {k : Int} (hk : Kind k) (p : Int × Int) : f_law_near [.int k, cellP p] = .ok (cells ((n9 k).map fun d => sh d p)) [] := by
  obtain ⟨x, y⟩ := p
  rcases hk with rfl | rfl | rfl
  · kernel_rfl
  · kernel_rfl
  · kernel_rfl
/-- the cells that touch a picture -/
def imgs9 (k : Int) (live : List (Int × Int)) : List (Int × Int) := live.flatMap fun p => (n9 k).map fun d => sh d p
theorem imgs9_snoc (k : Int) {live : List (Int × Int)} {i : Nat} {p : Int × Int} (h : live[i]? = some p) : imgs9 k (live.take (i + 1)) = imgs9 k (live.take i) ++ (n9 k).map fun d => sh d p := by
  rw [take_snoc h]
  unfold imgs9
  rw [List.flatMap_append]
  simp
theorem imgs9_len (k : Int) (live : List (Int × Int)) : (imgs9 k live).length ≤ live.length * 9 := flat_le _ 9 live fun p => by rw [List.length_map]; exact n9_len k
theorem imgs9_take (k : Int) (live : List (Int × Int)) (i : Nat) : (imgs9 k (live.take i)).length ≤ live.length * 9 :=
  Nat.le_trans (imgs9_len k _) (Nat.mul_le_mul (by rw [List.length_take]; omega) (Nat.le_refl _))
theorem bools_map {α : Type} (f : α → Bool) (l : List α) : dBools (l.map fun a => D.bl (f a)) = some (l.map f) := by
  induction l with
  | nil => rfl
  | cons a l ih =>
    show (dBools (l.map fun a => D.bl (f a))).map _ = _
    rw [ih]
    rfl
theorem any_map {α : Type} (f : α → Bool) (l : List α) : dAny [.lst (l.map fun a => D.bl (f a))] = some (.bl (l.any f)) := by
  show (dBools (l.map fun a => D.bl (f a))).map _ = _
  rw [bools_map]
  show some (D.bl _) = _
  rw [List.any_map]
  rfl
def wt (p c : Int × Int) : Int := if (!decide (c.1 = p.1 ∧ c.2 = p.2)) = true then 1 else 0
theorem wt_eq (p c : Int × Int) : wt p c = if c = p then 0 else 1 := by
  unfold wt
  by_cases h : c = p
  · rw [if_pos h, decide_eq_true (by rw [h]; exact ⟨rfl, rfl⟩), if_neg (by decide)]
  · rw [if_neg h, decide_eq_false (fun z => h (Prod.ext z.1 z.2)), if_pos (by decide)]
def opsW (k : Int) (live : List (Int × Int)) : List ((Int × Int) × Int) := live.flatMap fun p => ((n9 k).map fun d => sh d p).map fun c => (c, wt p c)
theorem opsW_snoc (k : Int) {live : List (Int × Int)} {i : Nat} {p : Int × Int} (h : live[i]? = some p) : opsW k (live.take (i + 1)) = opsW k (live.take i) ++ ((n9 k).map fun d => sh d p).map fun c => (c, wt p c) := by
  rw [take_snoc h]
  unfold opsW
  rw [List.flatMap_append]
  simp
theorem opsW_len (k : Int) (live : List (Int × Int)) : (opsW k live).length ≤ live.length * 9 := flat_le _ 9 live fun p => by rw [List.length_map, List.length_map]; exact n9_len k
theorem opsW_take (k : Int) (live : List (Int × Int)) (i : Nat) : (opsW k (live.take i)).length ≤ live.length * 9 :=
  Nat.le_trans (opsW_len k _) (Nat.mul_le_mul (by rw [List.length_take]; omega) (Nat.le_refl _))
theorem n9_nodup (k : Int) : (n9 k).Nodup := by
  unfold n9
  split <;> decide
theorem sum_row (p c : Int × Int) : ∀ {L : List (Int × Int)}, L.Nodup → sumAt ((L.map fun d => sh d p).map fun c => (c, wt p c)) c = if (c.1 - p.1, c.2 - p.2) ∈ L then wt p c else 0
  | [], _ => rfl
  | d :: L, h => by
    have hn := List.nodup_cons.mp h
    show (if sh d p = c then wt p (sh d p) else 0) + sumAt ((L.map fun d => sh d p).map fun c => (c, wt p c)) c = _
    rw [sum_row p c hn.2]
    have hd : sh d p = c ↔ d = (c.1 - p.1, c.2 - p.2) := by
      obtain ⟨u, v⟩ := d
      obtain ⟨x, y⟩ := p
      obtain ⟨a, b⟩ := c
      unfold sh
      simp only [Prod.mk.injEq]
      omega
    by_cases h1 : sh d p = c
    · have h2 := hd.mp h1
      rw [if_pos h1, h1, if_neg (by rw [← h2]; exact hn.1), if_pos (by rw [← h2]; exact List.mem_cons_self ..)]
      omega
    · have h2 : ¬ d = (c.1 - p.1, c.2 - p.2) := fun z => h1 (hd.mpr z)
      rw [if_neg h1]
      by_cases h3 : (c.1 - p.1, c.2 - p.2) ∈ L
      · rw [if_pos h3, if_pos (List.mem_cons_of_mem _ h3)]
        omega
      · rw [if_neg h3, if_neg (fun z => (List.mem_cons.mp z).elim (fun e => h2 e.symm) h3)]
        rfl
theorem opsW_lives {k : Int} (hk : Kind k) (live : List (Int × Int)) (c : Int × Int) : sumAt (opsW k live) c = ((livesP k live c : Nat) : Int) := by
  induction live with
  | nil => rfl
  | cons p live ih =>
    have h1 : opsW k (p :: live) = (((n9 k).map fun d => sh d p).map fun c => (c, wt p c)) ++ opsW k live := rfl
    rw [h1, sumAt_app, ih, sum_row p c (n9_nodup k)]
    unfold livesP
    rw [List.countP_cons]
    have hn := n9_near hk (c.1 - p.1, c.2 - p.2)
    have he : ((c.1 - p.1, c.2 - p.2) = ((0, 0) : Int × Int)) ↔ c = p := by
      obtain ⟨x, y⟩ := p
      obtain ⟨a, b⟩ := c
      simp only [Prod.mk.injEq]
      omega
    rw [wt_eq]
    by_cases h2 : (c.1 - p.1, c.2 - p.2) ∈ n9 k
    · rw [if_pos h2]
      by_cases h3 : c = p
      · rw [if_pos h3, if_neg (by rw [decide_eq_true_eq, hn]; exact fun z => z.2 (he.mpr h3))]
        omega
      · rw [if_neg h3, if_pos (by rw [decide_eq_true_eq, hn]; exact ⟨h2, fun z => h3 (he.mp z)⟩)]
        omega
    · rw [if_neg h2, if_neg (by rw [decide_eq_true_eq, hn]; exact fun z => h2 z.1)]
      omega
theorem opsW_keys (k : Int) (live : List (Int × Int)) (c : Int × Int) : c ∈ (opsT (opsW k live)).map (·.1) ↔ c ∈ imgs9 k live := by
  rw [opsT_keys]
  unfold opsW imgs9
  simp only [List.mem_map, List.mem_flatMap]
  constructor
  · rintro ⟨o, ⟨p, hp, c, hc, rfl⟩, rfl⟩
    exact ⟨p, hp, hc⟩
  · rintro ⟨p, hp, hc⟩
    exact ⟨(c, wt p c), ⟨p, hp, c, hc, rfl⟩, rfl⟩
theorem nought9 (k : Int) : ((0, 0) : Int × Int) ∈ n9 k := by
  unfold n9
  split <;> decide
theorem in9_live (k : Int) {live : List (Int × Int)} {c : Int × Int} (h : c ∈ live) : c ∈ imgs9 k live := by
  unfold imgs9
  rw [List.mem_flatMap]
  exact ⟨c, h, List.mem_map.mpr ⟨(0, 0), nought9 k, by unfold sh; simp⟩⟩
theorem in9_imgs {k : Int} (hk : Kind k) {live : List (Int × Int)} {c : Int × Int} (h : c ∈ imgsP k live) : c ∈ imgs9 k live := by
  unfold imgsP at h
  obtain ⟨p, hp, h⟩ := List.mem_flatMap.mp h
  obtain ⟨d, hd, rfl⟩ := List.mem_map.mp h
  unfold imgs9
  exact List.mem_flatMap.mpr ⟨p, hp, List.mem_map.mpr ⟨d, ((n9_near hk d).mp hd).1, rfl⟩⟩
theorem next9 {k : Int} (hk : Kind k) {bs : List Int} (hq : 0 ∉ bs) (ss : List Int) (live : List (Int × Int)) {c : Int × Int} (h : cond k bs ss live c = true) : c ∈ imgs9 k live := by
  have hm := (mem_nextP hq ss live c).mpr h
  unfold nextP at hm
  have hm := (List.mem_filter.mp hm).1
  rw [mem_ddS, List.mem_append, cntT_keys] at hm
  rcases hm with h | h
  · exact in9_imgs hk h
  · exact in9_live k h
theorem opsW_next {k : Int} (hk : Kind k) {bs : List Int} (hq : 0 ∉ bs) (ss : List Int) (live : List (Int × Int)) : sortE (((opsT (opsW k live)).map (·.1)).filter (cond k bs ss live)) = nextP k bs ss live := by
  refine nextP_ext hq ss live (pic_of ((opsT_nodup _).filter _)) fun c => ?_
  rw [mem_sortE, List.mem_filter, opsW_keys]
  exact ⟨fun h => h.2, fun h => ⟨next9 hk hq ss live h, h⟩⟩
theorem law_next_is {k : Int} (hk : Kind k) {bs : List Int} (hq : 0 ∉ bs) (ss : List Int) (live : List (Int × Int)) (hl : live.length ≤ 1600) : f_law_next [ruleD k bs ss, cells live] = .ok (cells (nextP k bs ss live)) [] := by
  obtain ⟨ρ', e, s4, s5, h4, h5, rfl⟩ := for_list (g := gSet 4) (body := b_law_next_2) (e := cellP) (fun i ρ => ∃ s4 s5, notOwn (some s4) = true ∧ notOwn (some s5) = true ∧ ρ = [.val (ruleD k bs ss), .val (cells live), .own (.dicT false (encE D.bl (allT (live.take i)))), .own (.dicT false (encE D.int (opsT (opsW k (live.take i))))), s4, s5]) (l := live) (ρ := [.val (ruleD k bs ss), .val (cells live), .own (.dicT false []), .own (.dicT false []), .emp, .emp]) ⟨_, _, rfl, rfl, rfl⟩ (fun i p ρ hi hρ => by
    obtain ⟨s4, s5, h4, h5, rfl⟩ := hρ
    refine ⟨_, rfl, ?_⟩
    have en := near_is hk p
    have l1 : i < live.length := (List.getElem?_eq_some_iff.mp hi).1
    obtain ⟨ρ', e, s5, h5, rfl⟩ := for_list (g := gSet 5) (body := b_law_next_1) (e := cellP) (fun j ρ => ∃ s5, notOwn (some s5) = true ∧ ρ = [.val (ruleD k bs ss), .val (cells live), .own (.dicT false (encE D.bl (allT (live.take (i + 1))))), .own (.dicT false (encE D.int (opsT (opsW k (live.take i) ++ (((n9 k).map fun d => sh d p).take j).map fun c => (c, wt p c))))), .val (cellP p), s5]) (l := (n9 k).map fun d => sh d p) (ρ := [.val (ruleD k bs ss), .val (cells live), .own (.dicT false (encE D.bl (allT (live.take (i + 1))))), .own (.dicT false (encE D.int (opsT (opsW k (live.take i))))), .val (cellP p), s5]) ⟨_, h5, by rw [List.take_zero, List.map_nil, List.append_nil]⟩ (fun j c ρ hj hρ => by
      obtain ⟨s5, h5, rfl⟩ := hρ
      refine ⟨_, rfl, ?_⟩
      have l3 := n9_len k
      have l4 := opsW_take k live i
      have hx : opsW k (live.take i) ++ (((n9 k).map fun d => sh d p).take (j + 1)).map (fun c => (c, wt p c)) = (opsW k (live.take i) ++ (((n9 k).map fun d => sh d p).take j).map fun c => (c, wt p c)) ++ [(c, wt p c)] := by
        rw [take_snoc hj, List.map_append, ← List.append_assoc]
        rfl
      rw [hx]
      generalize hL : opsW k (live.take i) ++ (((n9 k).map fun d => sh d p).take j).map (fun c => (c, wt p c)) = L
      have lL : L.length ≤ 19000 := by
        rw [← hL, List.length_append, List.length_map, List.length_take, List.length_map]
        omega
      have hz : (encE D.int (opsT L)).length < sizeLine := by
        rw [encE_len]
        exact szBl (Nat.le_trans (opsT_len L) (by omega))
      rw [opsT_snoc]
      obtain ⟨u, v⟩ := c
      obtain ⟨x, y⟩ := p
      unfold b_law_next_1
      simp! [cells, cellP, hz, lk_int, pt_int, dInt_bl, wt]
      exact ⟨_, .inl rfl, _, rfl, rfl⟩)
    rw [List.take_length, ← opsW_snoc k hi] at e
    have hz : (encE D.bl (allT (live.take i))).length < sizeLine := by
      have := allT_len (live.take i)
      rw [List.length_take] at this
      rw [encE_len]
      exact szBl (by omega)
    have hs : encE D.bl (allT (live.take (i + 1))) = pt (encE D.bl (allT (live.take i))) (ck p) (.bl true) := by
      rw [take_snoc hi, allT_snoc, pt_bl]
    obtain ⟨x, y⟩ := p
    unfold b_law_next_2
    simp! [cells, ruleD, cellP] at e en ⊢
    simp! [hz, en, e, ← hs]
    exact ⟨_, .inl rfl, _, _, rfl, h5, rfl⟩)
  rw [List.take_length] at e
  have hz1 : ((opsT (opsW k live)).map (·.1)).length ≤ 14400 := by
    have h1 := opsW_len k live
    have h2 := opsT_len (opsW k live)
    rw [List.length_map]
    omega
  have hz2 : (((opsT (opsW k live)).map (·.1)).map cellP).length ≤ sizeLine := by
    rw [List.length_map]
    exact szB (by omega)
  have hz3 : ((((opsT (opsW k live)).map (·.1)).filter (cond k bs ss live)).map cellP).length ≤ sizeLine := by
    rw [List.length_map]
    exact szB (Nat.le_trans (List.length_filter_le _ _) (by omega))
  have hf := opsW_next hk hq ss live
  unfold f_law_next b_law_next
  simp! [cells, ruleD] at e ⊢
  simp! [e, keys_enc, hz2, h4, h5, zhJ, zhK]
  rw [lcFilt cellP (cond k bs ss live) id]
  · rw [List.map_id]
    simp! [hz3, sorted_cells, hf]
  · intro c hc
    obtain ⟨x, y⟩ := c
    have hv := opsW_lives hk live (x, y)
    rw [← opsT_val] at hv
    obtain ⟨v, ev⟩ : ∃ v, lkA (opsT (opsW k live)) (x, y) = some v := Option.isSome_iff_exists.mp ((mem_keys _ _).mp hc)
    rw [ev] at hv
    have hv : v = ((livesP k live (x, y) : Nat) : Int) := hv
    have hl := lk_enc D.int (opsT (opsW k live)) (x, y)
    rw [ev] at hl
    have q : cond k bs ss live (x, y) = decide (((livesP k live (x, y) : Nat) : Int) ∈ if (x, y) ∈ live then ss else bs) := rfl
    rw [← hv] at q
    by_cases hm : (x, y) ∈ live
    · rw [if_pos hm] at q
      by_cases hs : v ∈ ss
      · rw [decide_eq_true hs] at q
        rw [if_pos q]
        simp! [cellP, lk_some, allT_lk, hm, dInt_bl, zgA, hl, hs, id_eq]
      · rw [decide_eq_false hs] at q
        rw [if_neg (by rw [q]; decide)]
        simp! [cellP, lk_some, allT_lk, hm, dInt_bl, zgA, hl, hs, id_eq]
    · rw [if_neg hm] at q
      by_cases hs : v ∈ bs
      · rw [decide_eq_true hs] at q
        rw [if_pos q]
        simp! [cellP, lk_some, allT_lk, hm, dInt_bl, zgA, hl, hs, id_eq]
      · rw [decide_eq_false hs] at q
        rw [if_neg (by rw [q]; decide)]
        simp! [cellP, lk_some, allT_lk, hm, dInt_bl, zgA, hl, hs, id_eq]
/-- a set is small: it lies in a list of n cells -/
def Cov (n : Nat) (l : List (Int × Int)) : Prop := ∃ B : List (Int × Int), B.length ≤ n ∧ ∀ p ∈ l, p ∈ B
theorem Cov.len {n : Nat} {l : List (Int × Int)} (h : Cov n l) (hn : l.Nodup) : l.length ≤ n := by
  obtain ⟨B, hB, hs⟩ := h
  exact Nat.le_trans (nodup_len hn hs) hB
theorem Cov.sub {n : Nat} {l m : List (Int × Int)} (h : Cov n l) (hs : ∀ p ∈ m, p ∈ l) : Cov n m := by
  obtain ⟨B, hB, h⟩ := h
  exact ⟨B, hB, fun p hp => h p (hs p hp)⟩
theorem cntT_nodup (l : List (Int × Int)) : ((cntT l).map (·.1)).Nodup := by
  have e : cntT l = opsT (l.map fun c => (c, 1)) := by
    unfold cntT opsT
    rw [List.foldl_map]
    rfl
  rw [e]
  exact opsT_nodup _
theorem next_is {k : Int} (hk : Kind k) {bs : List Int} (hq : 0 ∉ bs) (ss : List Int) (live : List (Int × Int)) (hl : live.length ≤ 1600) (hc : Cov 2400 (imgs9 k live)) : f_next_turn [ruleD k bs ss, cells live] = .ok (cells (nextP k bs ss live)) [] := by
  rw [next_p]
  unfold p_next_turn pb_next_turn
  have e1 := quiet_is k hq ss
  have e2 := counts_is hk live hl
  obtain ⟨ρ', e, s4, hs, rfl⟩ := for_list (g := gSet 4) (body := pb_next_turn_1) (e := cellP) (fun i ρ => ∃ s4, notOwn (some s4) = true ∧ ρ = [.val (ruleD k bs ss), .val (cells live), .val (.dicT false (encE D.int (cntT (imgsP k live)))), .own (.dicT false (encE D.bl (allT (live.take i)))), s4, .emp]) (l := live) (ρ := [.val (ruleD k bs ss), .val (cells live), .val (.dicT false (encE D.int (cntT (imgsP k live)))), .own (.dicT false []), .emp, .emp]) ⟨_, rfl, rfl⟩ (fun i p ρ hi hρ => by
    obtain ⟨s4, _, rfl⟩ := hρ
    obtain ⟨x, y⟩ := p
    refine ⟨_, rfl, ?_⟩
    have l1 : i < live.length := (List.getElem?_eq_some_iff.mp hi).1
    have hz : (encE D.bl (allT (live.take i))).length < sizeLine := by
      have := allT_len (live.take i)
      rw [List.length_take] at this
      rw [encE_len]
      exact szBl (by omega)
    rw [take_snoc hi, allT_snoc]
    unfold pb_next_turn_1
    simp! [cellP, hz, pt_bl]
    exact ⟨_, .inl rfl, _, rfl, rfl⟩)
  rw [List.take_length] at e
  have hlen : ((cntT (imgsP k live)).map (·.1) ++ live).length ≤ manyS := by
    have h1 : ((cntT (imgsP k live)).map (·.1)).length ≤ 2400 := (hc.sub (m := (cntT (imgsP k live)).map (·.1)) fun p hp => in9_imgs hk ((cntT_keys _ _).mp hp)).len (cntT_nodup _)
    rw [List.length_append]
    unfold manyS
    omega
  have hss := dSSG_cells _ hlen
  rw [List.map_append] at hss
  have hz1 : (((cntT (imgsP k live)).map (·.1)).map cellP).length + (live.map cellP).length ≤ sizeLine := by
    rw [List.length_append, List.length_map] at hlen
    rw [List.length_map, List.length_map, List.length_map]
    exact szB (by unfold manyS at hlen; omega)
  have hz2 : ((ddS ((cntT (imgsP k live)).map (·.1) ++ live)).map cellP).length ≤ sizeLine := by
    rw [List.length_map]
    refine szB ?_
    have := dd_le ((cntT (imgsP k live)).map (·.1) ++ live)
    unfold ddS
    rw [sortE_length]
    unfold manyS at hlen
    omega
  simp! [cells, ruleD] at e1 e2 e ⊢
  simp! [e1, e2, e, hs, zgV, zgW, keys_enc, hz1, hss, hz2]
  rw [lcFilt cellP (cond k bs ss live) id]
  · rw [List.map_id]
    rfl
  · intro c _
    have q := comes_is k ((livesP k live c : Nat) : Int) bs ss (decide (c ∈ live))
    have q2 := cntT_lk (imgsP k live) c
    rw [imgsP_count] at q2
    obtain ⟨a, b⟩ := c
    simp! [ruleD, decide_eq_true_eq] at q
    simp! [cellP, lk_int, lk_some, allT_lk, q2, q]
    unfold G.cond
    by_cases hm : ((livesP k live (a, b) : Nat) : Int) ∈ if (a, b) ∈ live then ss else bs
    · simp! [hm, id]
    · simp! [hm, id]
/-- a turn of a picture that both loops can go through -/
def Sm (k : Int) (live : List (Int × Int)) : Prop := live.length ≤ 1600 ∧ Cov 2400 (imgs9 k live)

/-- an instance of Groups: its starts and its living cells with their numbers -/
def gsD (z : Bool) (k : Int) (bs ss : List Int) (T0 T : List ((Int × Int) × Int)) : D := .inst "Groups" [("told", ruleD k bs ss), ("steps", cells (n9 k)), ("starts", .dicT z (encE D.int T0)), ("alive", .dicT z (encE D.int T))]
theorem fld_steps (z : Bool) (k : Int) (bs ss : List Int) (T0 T : List ((Int × Int) × Int)) : dFld "Groups" "steps" (gsD z k bs ss T0 T) = some (cells (n9 k)) := rfl
theorem fld_told (z : Bool) (k : Int) (bs ss : List Int) (T0 T : List ((Int × Int) × Int)) : dFld "Groups" "told" (gsD z k bs ss T0 T) = some (ruleD k bs ss) := rfl
theorem fld_starts (z : Bool) (k : Int) (bs ss : List Int) (T0 T : List ((Int × Int) × Int)) : dFld "Groups" "starts" (gsD z k bs ss T0 T) = some (.dicT z (encE D.int T0)) := rfl
theorem fld_alive (z : Bool) (k : Int) (bs ss : List Int) (T0 T : List ((Int × Int) × Int)) : dFld "Groups" "alive" (gsD z k bs ss T0 T) = some (.dicT z (encE D.int T)) := rfl
/-- the numbers near a cell -/
def nums (k : Int) (T : List ((Int × Int) × Int)) (c : Int × Int) : List Int := (((n9 k).map fun d => sh d c).filter fun c => (lkA T c).isSome).map fun c => (lkA T c).getD 0
def nearN (k : Int) (T : List ((Int × Int) × Int)) (c : Int × Int) : List Int := sortI (nums k T c)
theorem nums_len (k : Int) (T : List ((Int × Int) × Int)) (c : Int × Int) : (nums k T c).length ≤ 9 := by
  unfold nums
  rw [List.length_map]
  refine Nat.le_trans (List.length_filter_le _ _) ?_
  rw [List.length_map]
  exact n9_len k
theorem ssi_ints (ns : List Int) (h : ns.length < 64) : dSSI (.lst (ns.map D.int)) = some (.lst ((sortI ns).map D.int)) := by
  have e : tupInts (ns.map D.int) = some ns := tupInts_int ns
  show ((some (ns.map D.int)).bind fun ds => (tupInts ds).bind fun ns => if ns.length < 64 then some (D.lst ((sortI ns).map D.int)) else none) = _
  rw [Option.bind_some, e, Option.bind_some, if_pos h]
theorem near_is2 (z : Bool) (k : Int) (bs ss : List Int) (T0 T : List ((Int × Int) × Int)) (c : Int × Int) : f_Groups_near [gsD z k bs ss T0 T, cellP c] = .ok (.lst ((nearN k T c).map D.int)) [] := by
  obtain ⟨x, y⟩ := c
  unfold f_Groups_near b_Groups_near
  have e1 : lcRun (gsTup 2 (gsCons (gSet 3) (gsCons (gSet 4) gsNil))) xYes (xOpL dTup (xCons (xOp2 dAdd (xOp2 dIx (xVar 1) (xC (.int 0))) (xVar 3)) (xCons (xOp2 dAdd (xOp2 dIx (xVar 1) (xC (.int 1))) (xVar 4)) xNil))) [3, 4] ((n9 k).map cellP) [] [.val (gsD z k bs ss T0 T), .val (cellP (x, y)), .emp, .emp, .emp, .emp] = .ok (((n9 k).map fun d => sh d (x, y)).map cellP) [.val (gsD z k bs ss T0 T), .val (cellP (x, y)), .emp, .emp, .emp, .emp] := by
    rw [lcMap cellP (fun d => sh d (x, y))]
    intro d _
    obtain ⟨u, v⟩ := d
    simp! [cellP, sh]
  have e2 : lcRun (gSet 5) (xTest (xOp2 dInX (xVar 5) (xOp1 (dFld "Groups" "alive") (xVar 0)))) (xDIxV (xOp1 (dFld "Groups" "alive") (xVar 0)) (xVar 5)) [5] (((n9 k).map fun d => sh d (x, y)).map cellP) [] [.val (gsD z k bs ss T0 T), .val (cellP (x, y)), .val (cells ((n9 k).map fun d => sh d (x, y))), .emp, .emp, .emp] = .ok ((nums k T (x, y)).map D.int) [.val (gsD z k bs ss T0 T), .val (cellP (x, y)), .val (cells ((n9 k).map fun d => sh d (x, y))), .emp, .emp, .emp] := by
    unfold nums
    rw [lcFilt D.int (fun c => (lkA T c).isSome) (fun c => (lkA T c).getD 0)]
    intro c _
    obtain ⟨u, v⟩ := c
    have hl := lk_enc D.int T (u, v)
    cases e : lkA T (u, v) with
    | none =>
      have hl : lk (encE D.int T) (ck (u, v)) = none := by rw [hl, e]; rfl
      simp! [cellP, fld_alive, zgC, hl, Option.isSome_none]
    | some w =>
      have hl : lk (encE D.int T) (ck (u, v)) = some (.int w) := by rw [hl, e]; rfl
      simp! [cellP, fld_alive, zgC, zgA, hl, Option.isSome_some]
      rfl
  have hz : ((n9 k).map cellP).length ≤ sizeLine := by rw [List.length_map]; exact szB (Nat.le_trans (n9_len k) (by decide))
  have hz1 : (((n9 k).map fun d => sh d (x, y)).map cellP).length ≤ sizeLine := by rw [List.length_map, List.length_map]; exact szB (Nat.le_trans (n9_len k) (by decide))
  have hz2 : ((nums k T (x, y)).map D.int).length ≤ sizeLine := by rw [List.length_map]; exact szB (Nat.le_trans (nums_len k T (x, y)) (by decide))
  have es := ssi_ints (nums k T (x, y)) (Nat.lt_of_le_of_lt (nums_len k T (x, y)) (by decide))
  simp! [cells] at e1 e2 ⊢
  simp! [fld_steps, cells, e1, hz, hz1, e2, hz2, es]
  rfl

abbrev LT := List ((Int × Int) × Int)
/-- the first number of each cell, and the cells where another one comes -/
def firA (F : LT) (o : (Int × Int) × Int) : LT := if (lkA F o.1).isSome = true then F else ptA F o.1 o.2
def stC (s : LT × List ((Int × Int) × Bool)) (o : (Int × Int) × Int) : LT × List ((Int × Int) × Bool) := (firA s.1 o, if (lkA (firA s.1 o) o.1).getD 0 = o.2 then s.2 else ptA s.2 o.1 true)
def crT (ops : LT) : LT × List ((Int × Int) × Bool) := ops.foldl stC ([], [])
def opsG (k : Int) (T : LT) : LT := T.flatMap fun e => (n9 k).map fun d => (sh d e.1, e.2)
theorem crT_snoc (ops : LT) (o : (Int × Int) × Int) : crT (ops ++ [o]) = stC (crT ops) o := List.foldl_append ..
theorem opsG_snoc (k : Int) {T : LT} {i : Nat} {e : (Int × Int) × Int} (h : T[i]? = some e) : opsG k (T.take (i + 1)) = opsG k (T.take i) ++ (n9 k).map fun d => (sh d e.1, e.2) := by
  rw [take_snoc h]
  unfold opsG
  rw [List.flatMap_append]
  simp
theorem opsG_len (k : Int) (T : LT) : (opsG k T).length ≤ T.length * 9 := flat_le _ 9 T fun p => by rw [List.length_map]; exact n9_len k
theorem opsG_take (k : Int) (T : LT) (i : Nat) : (opsG k (T.take i)).length ≤ T.length * 9 :=
  Nat.le_trans (opsG_len k _) (Nat.mul_le_mul (by rw [List.length_take]; omega) (Nat.le_refl _))
theorem crT_len (ops : LT) : (crT ops).1.length ≤ ops.length ∧ (crT ops).2.length ≤ ops.length := by
  suffices h : ∀ (ops : LT) (s : LT × List ((Int × Int) × Bool)), (ops.foldl stC s).1.length ≤ s.1.length + ops.length ∧ (ops.foldl stC s).2.length ≤ s.2.length + ops.length by
    have := h ops ([], [])
    simpa [crT] using this
  intro ops
  induction ops with
  | nil => intro s; exact ⟨Nat.le_refl _, Nat.le_refl _⟩
  | cons o ops ih =>
    intro s
    obtain ⟨h1, h2⟩ := ih (stC s o)
    have h3 : (stC s o).1.length ≤ s.1.length + 1 := by
      unfold stC firA
      dsimp only
      split
      · omega
      · exact ptA_len _ _ _
    have h4 : (stC s o).2.length ≤ s.2.length + 1 := by
      unfold stC
      dsimp only
      split
      · omega
      · exact ptA_len _ _ _
    rw [List.foldl_cons, List.length_cons]
    omega
theorem crT_fst (ops : LT) (c : Int × Int) : lkA (crT ops).1 c = lkA ops c := by
  suffices h : ∀ (ops : LT) (s : LT × List ((Int × Int) × Bool)), lkA (ops.foldl stC s).1 c = (lkA s.1 c).or (lkA ops c) by
    have := h ops ([], [])
    simpa [crT, lkA_nil] using this
  intro ops
  induction ops with
  | nil => intro s; rw [List.foldl_nil, lkA_nil, Option.or_none]
  | cons o ops ih =>
    intro s
    obtain ⟨b, w⟩ := o
    rw [List.foldl_cons, ih, lkA_cons]
    have e : lkA (stC s (b, w)).1 c = (lkA s.1 c).or (if b = c then some w else none) := by
      unfold stC firA
      dsimp only
      by_cases hb : b = c
      · subst hb
        rw [if_pos rfl]
        cases h : lkA s.1 b with
        | some u => rw [if_pos (show (some u).isSome = true from rfl), h]; rfl
        | none => rw [if_neg (by decide), lkA_pt, if_pos rfl]; rfl
      · rw [if_neg hb, Option.or_none]
        split
        · rfl
        · rw [lkA_pt, if_neg (fun z => hb z.symm)]
    rw [e]
    by_cases hb : b = c
    · rw [if_pos hb, if_pos hb]
      cases lkA s.1 c <;> rfl
    · rw [if_neg hb, if_neg hb, Option.or_none]
/-- the cells at which two numbers come -/
theorem crT_snd (ops : LT) (c : Int × Int) : c ∈ (crT ops).2.map (·.1) ↔ ∃ v, (c, v) ∈ ops ∧ lkA ops c ≠ some v := by
  suffices h : ∀ (n : Nat) (ops : LT), ops.length = n → (c ∈ (crT ops).2.map (·.1) ↔ ∃ v, (c, v) ∈ ops ∧ lkA ops c ≠ some v) from h _ ops rfl
  intro n
  induction n with
  | zero =>
    intro ops h
    rw [List.length_eq_zero_iff.mp h]
    exact ⟨fun h => absurd h List.not_mem_nil, fun ⟨_, h, _⟩ => absurd h List.not_mem_nil⟩
  | succ n ih =>
    intro ops h
    obtain ⟨r, o, rfl⟩ : ∃ r o, ops = r ++ [o] := by
      have hne : ops ≠ [] := fun z => by rw [z] at h; cases h
      exact ⟨_, _, (List.dropLast_concat_getLast hne).symm⟩
    have hr : r.length = n := by rw [List.length_append] at h; exact Nat.succ.inj h
    obtain ⟨b, w⟩ := o
    have e0 := crT_fst (r ++ [(b, w)]) b
    rw [crT_snoc] at e0 ⊢
    have e1 : (stC (crT r) (b, w)).2 = if (lkA (stC (crT r) (b, w)).1 b).getD 0 = w then (crT r).2 else ptA (crT r).2 b true := rfl
    rw [e1, e0]
    have hs : (lkA (r ++ [(b, w)]) b).isSome = true := by rw [lkA_app, lkA_cons, if_pos rfl]; cases lkA r b <;> rfl
    obtain ⟨u, hu⟩ := Option.isSome_iff_exists.mp hs
    have hc : ∀ v, (c, v) ∈ r → lkA (r ++ [(b, w)]) c = lkA r c := fun v hv => by
      have : (lkA r c).isSome = true := (mem_keys _ _).mp (List.mem_map_of_mem (f := (·.1)) hv)
      obtain ⟨x, hx⟩ := Option.isSome_iff_exists.mp this
      rw [lkA_app, hx]
      rfl
    have old : (∃ v, (c, v) ∈ r ∧ lkA r c ≠ some v) ↔ ∃ v, (c, v) ∈ r ∧ lkA (r ++ [(b, w)]) c ≠ some v :=
      ⟨fun ⟨v, h1, h2⟩ => ⟨v, h1, by rw [hc v h1]; exact h2⟩, fun ⟨v, h1, h2⟩ => ⟨v, h1, by rw [← hc v h1]; exact h2⟩⟩
    have new : (∃ v, (c, v) ∈ r ++ [(b, w)] ∧ lkA (r ++ [(b, w)]) c ≠ some v) ↔ (∃ v, (c, v) ∈ r ∧ lkA r c ≠ some v) ∨ (c = b ∧ u ≠ w) := by
      rw [old]
      constructor
      · rintro ⟨v, h1, h2⟩
        rcases List.mem_append.mp h1 with h1 | h1
        · exact .inl ⟨v, h1, h2⟩
        · cases List.mem_singleton.mp h1
          rw [hu] at h2
          exact .inr ⟨rfl, fun z => h2 (by rw [z])⟩
      · rintro (⟨v, h1, h2⟩ | ⟨rfl, h2⟩)
        · exact ⟨v, List.mem_append_left _ h1, h2⟩
        · exact ⟨w, List.mem_append_right _ (List.mem_singleton.mpr rfl), by rw [hu]; exact fun z => h2 (Option.some.inj z)⟩
    rw [new, ← ih r hr, hu]
    show (c ∈ (if u = w then (crT r).2 else ptA (crT r).2 b true).map (·.1)) ↔ _
    by_cases huw : u = w
    · rw [if_pos huw]
      exact ⟨.inl, fun h => h.elim id fun z => absurd huw z.2⟩
    · rw [if_neg huw, ptA_keys]
      exact ⟨fun h => h.elim (fun z => .inr ⟨z, huw⟩) .inl, fun h => h.elim .inr fun z => .inl z.1⟩

theorem kTof_c (a b : Int) : kTof (.tup [.int a, .int b]) = some (ck (a, b)) := rfl
/-- the crowded cells -/
def crowdL (k : Int) (T : LT) : List (Int × Int) := sortE ((crT (opsG k T)).2.map (·.1))
theorem lkA_mem {T : LT} (hn : (T.map (·.1)).Nodup) {e : (Int × Int) × Int} (h : e ∈ T) : lkA T e.1 = some e.2 := by
  induction T with
  | nil => exact absurd h List.not_mem_nil
  | cons a T ih =>
    obtain ⟨b, w⟩ := a
    rw [List.map_cons, List.nodup_cons] at hn
    rw [lkA_cons]
    rcases List.mem_cons.mp h with rfl | h
    · rw [if_pos rfl]
    · rw [if_neg (fun (z : b = e.1) => hn.1 (List.mem_map.mpr ⟨e, h, z.symm⟩))]
      exact ih hn.2 h
theorem crowded_is {k : Int} (bs ss : List Int) (T0 T : LT) (hn : (T.map (·.1)).Nodup) (hl : T.length ≤ 440) : f_Groups_crowded [gsD true k bs ss T0 T] = .ok (cells (crowdL k T)) [] := by
  obtain ⟨ρ', e, s3, s4, s5, s6, i3, i4, i5, i6, rfl⟩ := for_list (g := gSet 3) (body := b_Groups_crowded_2) (e := fun e : (Int × Int) × Int => cellP e.1) (fun i ρ => ∃ s3 s4 s5 s6, notOwn (some s3) = true ∧ notOwn (some s4) = true ∧ notOwn (some s5) = true ∧ notOwn (some s6) = true ∧ ρ = [.val (gsD true k bs ss T0 T), .own (.dicT false (encE D.int (crT (opsG k (T.take i))).1)), .own (.dicT false (encE D.bl (crT (opsG k (T.take i))).2)), s3, s4, s5, s6]) (l := T) (ρ := [.val (gsD true k bs ss T0 T), .own (.dicT false []), .own (.dicT false []), .emp, .emp, .emp, .emp]) ⟨_, _, _, _, rfl, rfl, rfl, rfl, rfl⟩ (fun i p ρ hi hρ => by
    obtain ⟨s3, s4, s5, s6, i3, i4, i5, i6, rfl⟩ := hρ
    obtain ⟨⟨x, y⟩, w⟩ := p
    refine ⟨_, rfl, ?_⟩
    have hw := lk_enc D.int T (x, y)
    rw [lkA_mem hn (List.mem_of_getElem? hi)] at hw
    have hw : lk (encE D.int T) (ck (x, y)) = some (.int w) := hw
    obtain ⟨ρ', e, s4, s5, s6, i4, i5, i6, rfl⟩ := for_list (g := gsTup 2 (gsCons (gSet 4) (gsCons (gSet 5) gsNil))) (body := b_Groups_crowded_1) (e := cellP) (fun j ρ => ∃ s4 s5 s6, notOwn (some s4) = true ∧ notOwn (some s5) = true ∧ notOwn (some s6) = true ∧ ρ = [.val (gsD true k bs ss T0 T), .own (.dicT false (encE D.int (crT (opsG k (T.take i) ++ ((n9 k).take j).map fun d => (sh d (x, y), w))).1)), .own (.dicT false (encE D.bl (crT (opsG k (T.take i) ++ ((n9 k).take j).map fun d => (sh d (x, y), w))).2)), .val (.tup [.int x, .int y]), s4, s5, s6]) (l := n9 k) (ρ := [.val (gsD true k bs ss T0 T), .own (.dicT false (encE D.int (crT (opsG k (T.take i))).1)), .own (.dicT false (encE D.bl (crT (opsG k (T.take i))).2)), .val (.tup [.int x, .int y]), s4, s5, s6]) ⟨_, _, _, i4, i5, i6, by rw [List.take_zero, List.map_nil, List.append_nil]⟩ (fun j d ρ hj hρ => by
      obtain ⟨s4, s5, s6, i4, i5, i6, rfl⟩ := hρ
      obtain ⟨u, v⟩ := d
      refine ⟨_, rfl, ?_⟩
      have l3 := n9_len k
      have l4 := opsG_take k T i
      have hx : opsG k (T.take i) ++ ((n9 k).take (j + 1)).map (fun d => (sh d (x, y), w)) = (opsG k (T.take i) ++ ((n9 k).take j).map fun d => (sh d (x, y), w)) ++ [((x + u, y + v), w)] := by
        rw [take_snoc hj, List.map_append, ← List.append_assoc]
        rfl
      rw [hx, crT_snoc]
      generalize hL : opsG k (T.take i) ++ ((n9 k).take j).map (fun d => (sh d (x, y), w)) = L
      have lL : L.length ≤ 4000 := by
        rw [← hL, List.length_append, List.length_map, List.length_take]
        omega
      have lC := crT_len L
      have hz1 : (encE D.int (crT L).1).length < sizeLine := by rw [encE_len]; exact szBl (by omega)
      have hz2 : (encE D.bl (crT L).2).length < sizeLine := by rw [encE_len]; exact szBl (by omega)
      have hk := lk_enc D.int (crT L).1 (x + u, y + v)
      unfold b_Groups_crowded_1 stC firA
      dsimp only
      cases ek : lkA (crT L).1 (x + u, y + v) with
      | some r =>
        have hk : lk (encE D.int (crT L).1) (ck (x + u, y + v)) = some (.int r) := by rw [hk, ek]; rfl
        rw [if_pos (show (some r).isSome = true from rfl), ek, show (some r).getD 0 = r from rfl]
        by_cases hr : r = w
        · rw [if_pos hr]
          simp! [fld_alive, fld_steps, zgA, hw, kTof_c, zkG hz1, hk, hr]
          exact ⟨_, .inl rfl, _, _, _, rfl, rfl, rfl, rfl⟩
        · rw [if_neg hr]
          simp! [fld_alive, fld_steps, zgA, hw, kTof_c, zkG hz1, hk, hr, hz2, pt_bl]
          exact ⟨_, .inl rfl, _, _, _, rfl, rfl, rfl, rfl⟩
      | none =>
        have hk : lk (encE D.int (crT L).1) (ck (x + u, y + v)) = none := by rw [hk, ek]; rfl
        rw [if_neg (show ¬ (none : Option Int).isSome = true by decide), lkA_pt, if_pos rfl, show (some w).getD 0 = w from rfl, if_pos rfl]
        simp! [fld_alive, fld_steps, zgA, hw, kTof_c, zkG hz1, hk, pt_int]
        exact ⟨_, .inl rfl, _, _, _, rfl, rfl, rfl, rfl⟩)
    rw [List.take_length, ← opsG_snoc k hi] at e
    have hz : ((n9 k).map cellP).length ≤ sizeLine := by rw [List.length_map]; exact szB (Nat.le_trans (n9_len k) (by decide))
    unfold b_Groups_crowded_2
    simp! [cells, cellP] at e ⊢
    simp! [fld_steps, cells, cellP, e, hz]
    exact ⟨_, .inl rfl, _, _, _, _, rfl, i4, i5, i6, rfl⟩)
  rw [List.take_length] at e
  have lC := crT_len (opsG k T)
  have lO := opsG_len k T
  have hsd := zlz D.bl false (crT (opsG k T)).2 (by unfold manyS; omega)
  have hk : (encE D.int T).map (fun e => D.tup (e.1.map dKey)) = T.map fun e => cellP e.1 := by rw [keys_enc, List.map_map]; rfl
  unfold f_Groups_crowded b_Groups_crowded crowdL
  simp! [fld_alive, zhw, hk, e, hsd, zlw, zlx]

/-- all numbers of S become the first of them -/
def rel (S : List Int) (e : (Int × Int) × Int) : (Int × Int) × Int := if e.2 ∈ S then (e.1, S.headD 0) else e
def rl (S : List Int) (i : Nat) (T : LT) : LT := (T.take i).map (rel S) ++ T.drop i
theorem rel_fst (S : List Int) (e : (Int × Int) × Int) : (rel S e).1 = e.1 := by
  unfold rel
  split <;> rfl
theorem rel_keys (S : List Int) (T : LT) : (T.map (rel S)).map (·.1) = T.map (·.1) := by
  rw [List.map_map]
  exact List.map_congr_left fun e _ => rel_fst S e
theorem rl_keys (S : List Int) (i : Nat) (T : LT) : (rl S i T).map (·.1) = T.map (·.1) := by
  unfold rl
  rw [List.map_append, rel_keys, ← List.map_append, List.take_append_drop]
theorem rl_len (S : List Int) (i : Nat) (T : LT) : (rl S i T).length = T.length := by
  have := congrArg List.length (rl_keys S i T)
  rwa [List.length_map, List.length_map] at this
theorem rl_all (S : List Int) (T : LT) : rl S T.length T = T.map (rel S) := by
  unfold rl
  rw [List.take_length, List.drop_length, List.append_nil]
theorem rl_zero (S : List Int) (T : LT) : rl S 0 T = T := by unfold rl; rw [List.take_zero, List.drop_zero]; rfl
theorem drop_at {α : Type} {l : List α} {i : Nat} {a : α} (h : l[i]? = some a) : l.drop i = a :: l.drop (i + 1) := by
  obtain ⟨hl, e⟩ := List.getElem?_eq_some_iff.mp h
  rw [List.drop_eq_getElem_cons hl, e]
theorem rl_lk {S : List Int} {T : LT} (hn : (T.map (·.1)).Nodup) {i : Nat} {e : (Int × Int) × Int} (h : T[i]? = some e) : lkA (rl S i T) e.1 = some e.2 := by
  refine lkA_mem (by rw [rl_keys]; exact hn) ?_
  unfold rl
  rw [drop_at h]
  exact List.mem_append_right _ List.mem_cons_self
theorem rl_no {S : List Int} {T : LT} {i : Nat} {e : (Int × Int) × Int} (h : T[i]? = some e) (hs : e.2 ∉ S) : rl S (i + 1) T = rl S i T := by
  unfold rl
  rw [take_snoc h, List.map_append, List.append_assoc, drop_at h]
  show _ ++ (rel S e :: _) = _
  rw [show rel S e = e from if_neg hs]
  rfl
theorem rl_in {S : List Int} {T : LT} (hn : (T.map (·.1)).Nodup) {i : Nat} {e : (Int × Int) × Int} (h : T[i]? = some e) (hs : e.2 ∈ S) : ptA (rl S i T) e.1 (S.headD 0) = rl S (i + 1) T := by
  have hk : (lkA (rl S i T) e.1).isSome = true := by rw [rl_lk hn h]; rfl
  have hn2 : ((rl S i T).map (·.1)).Nodup := by rw [rl_keys]; exact hn
  unfold ptA
  rw [lkA_any, if_pos hk]
  unfold rl at hn2 ⊢
  rw [drop_at h] at hn2 ⊢
  rw [take_snoc h, List.map_append, List.map_append, List.append_assoc]
  rw [List.map_append, List.nodup_append] at hn2
  obtain ⟨_, n2, n3⟩ := hn2
  rw [List.map_cons, List.nodup_cons] at n2
  have k1 : ((T.take i).map (rel S)).map (fun f => if f.1 = e.1 then (f.1, S.headD 0) else f) = (T.take i).map (rel S) := by
    refine (List.map_congr_left fun f hf => ?_).trans (List.map_id _)
    exact if_neg (fun z => n3 f.1 (List.mem_map_of_mem (f := (·.1)) hf) e.1 List.mem_cons_self z)
  have k2 : (T.drop (i + 1)).map (fun f => if f.1 = e.1 then (f.1, S.headD 0) else f) = T.drop (i + 1) := by
    refine (List.map_congr_left fun f hf => ?_).trans (List.map_id _)
    exact if_neg (fun z => n2.1 (List.mem_map.mpr ⟨f, hf, z⟩))
  rw [k1, List.map_cons, k2, if_pos rfl]
  show _ = _ ++ (rel S e :: _)
  rw [show rel S e = (e.1, S.headD 0) from if_pos hs]
  rfl
theorem gsD_cls (z : Bool) (k : Int) (bs ss : List Int) (T0 T : LT) : clsI "Groups" (gsD z k bs ss T0 T) = true := rfl
theorem put_starts (k : Int) (bs ss : List Int) (T0 T T1 : LT) : putI "starts" (.dicT false (encE D.int T1)) (gsD false k bs ss T0 T) = gsD false k bs ss T1 T := rfl
theorem put_alive (k : Int) (bs ss : List Int) (T0 T T1 : LT) : putI "alive" (.dicT false (encE D.int T1)) (gsD false k bs ss T0 T) = gsD false k bs ss T0 T1 := rfl
theorem in_ints (w : Int) (S : List Int) : inD (.int w) (.lst (S.map D.int)) = some (decide (w ∈ S)) := inD_enc (α := Int) (by decide) w S
theorem cln_cell (c : Int × Int) : cln (cellP c) = true := rfl
theorem cln_st (c d : Int × Int) (S : List Int) : clnR [.emp, .val (cellP c), .val (.lst (S.map D.int)), .val (cellP d)] = true := by
  unfold clnR
  simp only [List.all_cons, List.all_nil, clnS, cln_cell, cln, clns_ints, Bool.and_true]
  rfl
theorem cln_st0 (c : Int × Int) (S : List Int) : clnR [.emp, .val (cellP c), .val (.lst (S.map D.int)), .emp] = true := by
  unfold clnR
  simp only [List.all_cons, List.all_nil, clnS, cln_cell, cln, clns_ints, Bool.and_true]
  rfl
theorem at_head {S : List Int} (h : S ≠ []) : atI (S.map D.int) 0 = some (.int (S.headD 0)) := by
  cases S with
  | nil => exact absurd rfl h
  | cons a S => exact atI_0 _ _
theorem starts_turn (k : Int) (bs ss : List Int) {T0 : LT} (T : LT) (hn : (T0.map (·.1)).Nodup) (hl : T0.length ≤ 440) (c : Int × Int) {S : List Int} (h0 : S ≠ []) {m : Nat} {x : D} {ρ : Rho} (hm : (T0.map fun e => cellP e.1)[m]? = some x) (hρ : ∃ s3, clnS s3 = true ∧ ρ = [.emp, .val (cellP c), .val (.lst (S.map D.int)), s3]) :
    ∃ ρ2 gd' ρ3, ρ2[0]? = some .emp ∧ (∀ p, gSet 3 x (ρ.set 0 (.adr p)) = some (ρ2.set 0 (.adr p))) ∧ m_Groups_merged_1 (gsD false k bs ss (rl S m T0) T) ρ2 = .nx gd' ρ3 ∧ gd' = gsD false k bs ss (rl S (m + 1) T0) T ∧ ∃ s3, clnS s3 = true ∧ ρ3 = [.emp, .val (cellP c), .val (.lst (S.map D.int)), s3] := by
  obtain ⟨s3, _, rfl⟩ := hρ
  rw [List.getElem?_map] at hm
  obtain ⟨⟨⟨a, b⟩, w⟩, he, rfl⟩ := Option.map_eq_some_iff.mp hm
  have hk := lk_enc D.int (rl S m T0) (a, b)
  rw [rl_lk hn he] at hk
  have hk : lk (encE D.int (rl S m T0)) (ck (a, b)) = some (.int w) := hk
  refine ⟨[.emp, .val (cellP c), .val (.lst (S.map D.int)), .val (cellP (a, b))], gsD false k bs ss (rl S (m + 1) T0) T, [.emp, .val (cellP c), .val (.lst (S.map D.int)), .val (cellP (a, b))], rfl, fun p => rfl, ?_, rfl, _, rfl, rfl⟩
  have eC : xTest (xOp2 dInX (xDIxV (xOp1 (dFld "Groups" "starts") (xVar 0)) (xVar 3)) (xVar 2)) [.val (gsD false k bs ss (rl S m T0) T), .val (cellP c), .val (.lst (S.map D.int)), .val (cellP (a, b))] = .ok (decide (w ∈ S)) [.val (gsD false k bs ss (rl S m T0) T), .val (cellP c), .val (.lst (S.map D.int)), .val (cellP (a, b))] := by
    simp! [fld_starts, cellP, zgA, hk, in_ints, Option.map_some]
  unfold m_Groups_merged_1
  rw [rSeq_nx (gd' := gsD false k bs ss (rl S (m + 1) T0) T) (ρ1 := [.emp, .val (cellP c), .val (.lst (S.map D.int)), .val (cellP (a, b))])]
  · rfl
  refine (rIf_of (i := 0) (ρ := [.emp, .val (cellP c), .val (.lst (S.map D.int)), .val (cellP (a, b))]) (ρ1 := [.val (gsD false k bs ss (rl S m T0) T), .val (cellP c), .val (.lst (S.map D.int)), .val (cellP (a, b))]) eC (cln_st _ _ _)).trans ?_
  by_cases hw : w ∈ S
  · rw [if_pos (decide_eq_true hw)]
    have hz : (encE D.int (rl S m T0)).length < sizeLine := by rw [encE_len, rl_len]; exact szBl (by omega)
    have eV : xOp2 dIx (xVar 2) (xC (.int 0)) [.val (gsD false k bs ss (rl S m T0) T), .val (cellP c), .val (.lst (S.map D.int)), .val (cellP (a, b))] = .ok (.int (S.headD 0)) [.val (gsD false k bs ss (rl S m T0) T), .val (cellP c), .val (.lst (S.map D.int)), .val (cellP (a, b))] := by
      simp! [at_head h0]
    have hp : dPutD (.dicT false (encE D.int (rl S m T0))) (cellP (a, b)) (.int (S.headD 0)) = some (.dicT false (encE D.int (rl S (m + 1) T0))) := by
      have := rl_in hn he hw
      rw [show ((a, b), w).1 = (a, b) from rfl] at this
      show dPutD _ (.tup [.int a, .int b]) _ = _
      rw [zgR hz, pt_int, this]
    exact (rSeq_nx (rDPut_of (i := 0) (ρ := [.emp, .val (cellP c), .val (.lst (S.map D.int)), .val (cellP (a, b))]) eV (cln_st _ _ _) rfl (rfl : xVar 3 _ = .ok (cellP (a, b)) [.val (gsD false k bs ss (rl S m T0) T), .val (cellP c), .val (.lst (S.map D.int)), .val (cellP (a, b))]) (cln_st _ _ _) rfl rfl rfl rfl hp rfl)).trans rfl
  · rw [if_neg (by rw [decide_eq_false hw]; decide)]
    rw [rl_no he hw]
    rfl

theorem meth1_of {c : String} {m : Str} {g : DF} {t : XA} {d : D} {ρ : Rho} (h : isIns c m d = true) : meth1 c m g t d ρ = (t ρ).bind (meth2 g d) := if_pos h
theorem alive_turn (k : Int) (bs ss : List Int) {T : LT} (T0 : LT) (hn : (T.map (·.1)).Nodup) (hl : T.length ≤ 440) (c : Int × Int) {S : List Int} (h0 : S ≠ []) {m : Nat} {x : D} {ρ : Rho} (hm : (T.map fun e => cellP e.1)[m]? = some x) (hρ : ∃ s3, clnS s3 = true ∧ ρ = [.emp, .val (cellP c), .val (.lst (S.map D.int)), s3]) :
    ∃ ρ2 gd' ρ3, ρ2[0]? = some .emp ∧ (∀ p, gSet 3 x (ρ.set 0 (.adr p)) = some (ρ2.set 0 (.adr p))) ∧ m_Groups_merged_2 (gsD false k bs ss T0 (rl S m T)) ρ2 = .nx gd' ρ3 ∧ gd' = gsD false k bs ss T0 (rl S (m + 1) T) ∧ ∃ s3, clnS s3 = true ∧ ρ3 = [.emp, .val (cellP c), .val (.lst (S.map D.int)), s3] := by
  obtain ⟨s3, _, rfl⟩ := hρ
  rw [List.getElem?_map] at hm
  obtain ⟨⟨⟨a, b⟩, w⟩, he, rfl⟩ := Option.map_eq_some_iff.mp hm
  have hk := lk_enc D.int (rl S m T) (a, b)
  rw [rl_lk hn he] at hk
  have hk : lk (encE D.int (rl S m T)) (ck (a, b)) = some (.int w) := hk
  refine ⟨[.emp, .val (cellP c), .val (.lst (S.map D.int)), .val (cellP (a, b))], gsD false k bs ss T0 (rl S (m + 1) T), [.emp, .val (cellP c), .val (.lst (S.map D.int)), .val (cellP (a, b))], rfl, fun p => rfl, ?_, rfl, _, rfl, rfl⟩
  have eC : xTest (xOp2 dInX (xDIxV (xOp1 (dFld "Groups" "alive") (xVar 0)) (xVar 3)) (xVar 2)) [.val (gsD false k bs ss T0 (rl S m T)), .val (cellP c), .val (.lst (S.map D.int)), .val (cellP (a, b))] = .ok (decide (w ∈ S)) [.val (gsD false k bs ss T0 (rl S m T)), .val (cellP c), .val (.lst (S.map D.int)), .val (cellP (a, b))] := by
    simp! [fld_alive, cellP, zgA, hk, in_ints, Option.map_some]
  unfold m_Groups_merged_2
  rw [rSeq_nx (gd' := gsD false k bs ss T0 (rl S (m + 1) T)) (ρ1 := [.emp, .val (cellP c), .val (.lst (S.map D.int)), .val (cellP (a, b))])]
  · rfl
  refine (rIf_of (i := 0) (ρ := [.emp, .val (cellP c), .val (.lst (S.map D.int)), .val (cellP (a, b))]) (ρ1 := [.val (gsD false k bs ss T0 (rl S m T)), .val (cellP c), .val (.lst (S.map D.int)), .val (cellP (a, b))]) eC (cln_st _ _ _)).trans ?_
  by_cases hw : w ∈ S
  · rw [if_pos (decide_eq_true hw)]
    have hz : (encE D.int (rl S m T)).length < sizeLine := by rw [encE_len, rl_len]; exact szBl (by omega)
    have eV : xOp2 dIx (xVar 2) (xC (.int 0)) [.val (gsD false k bs ss T0 (rl S m T)), .val (cellP c), .val (.lst (S.map D.int)), .val (cellP (a, b))] = .ok (.int (S.headD 0)) [.val (gsD false k bs ss T0 (rl S m T)), .val (cellP c), .val (.lst (S.map D.int)), .val (cellP (a, b))] := by
      simp! [at_head h0]
    have hp : dPutD (.dicT false (encE D.int (rl S m T))) (cellP (a, b)) (.int (S.headD 0)) = some (.dicT false (encE D.int (rl S (m + 1) T))) := by
      have := rl_in hn he hw
      rw [show ((a, b), w).1 = (a, b) from rfl] at this
      show dPutD _ (.tup [.int a, .int b]) _ = _
      rw [zgR hz, pt_int, this]
    exact (rSeq_nx (rDPut_of (i := 0) (ρ := [.emp, .val (cellP c), .val (.lst (S.map D.int)), .val (cellP (a, b))]) eV (cln_st _ _ _) rfl (rfl : xVar 3 _ = .ok (cellP (a, b)) [.val (gsD false k bs ss T0 (rl S m T)), .val (cellP c), .val (.lst (S.map D.int)), .val (cellP (a, b))]) (cln_st _ _ _) rfl rfl rfl rfl hp rfl)).trans rfl
  · rw [if_neg (by rw [decide_eq_false hw]; decide)]
    rw [rl_no he hw]
    rfl

theorem merged_is (k : Int) (bs ss : List Int) {T0 T : LT} (hn0 : (T0.map (·.1)).Nodup) (hl0 : T0.length ≤ 440) (hn : (T.map (·.1)).Nodup) (hl : T.length ≤ 440) (c : Int × Int) : f_Groups_merged (gsD false k bs ss T0 T) [cellP c] = if (nearN k T c).length < 2 then some (.bl false, gsD false k bs ss T0 T) else some (.bl true, gsD false k bs ss (T0.map (rel (nearN k T c))) (T.map (rel (nearN k T c)))) := by
  generalize hS : nearN k T c = S
  have en := near_is2 false k bs ss T0 T c
  rw [hS] at en
  have hI : isIns "Groups" "near" (gsD false k bs ss T0 T) = true := rfl
  have eS : xMeth "Groups" "near" f_Groups_near (xVar 0) (xCons (xVar 1) xNil) [.val (gsD false k bs ss T0 T), .val (cellP c), .emp, .emp] = .ok (.lst (S.map D.int)) [.val (gsD false k bs ss T0 T), .val (cellP c), .emp, .emp] := by
    simp! [meth1_of hI, zjm, en]
  have eL : xTest (xOp2 dLt (xOpL dLen (xCons (xVar 2) xNil)) (xC (.int 2))) [.val (gsD false k bs ss T0 T), .val (cellP c), .val (.lst (S.map D.int)), .emp] = .ok (decide (S.length < 2)) [.val (gsD false k bs ss T0 T), .val (cellP c), .val (.lst (S.map D.int)), .emp] := by
    have : (decide (((S.length : Nat) : Int) < 2)) = decide (S.length < 2) := by
      by_cases h : S.length < 2
      · rw [decide_eq_true h, decide_eq_true (by omega)]
      · rw [decide_eq_false h, decide_eq_false (by omega)]
    simp! [List.length_map, this]
  have q1 : rSet 0 2 (xMeth "Groups" "near" f_Groups_near (xVar 0) (xCons (xVar 1) xNil)) (gsD false k bs ss T0 T) [.emp, .val (cellP c), .emp, .emp] = .nx (gsD false k bs ss T0 T) [.emp, .val (cellP c), .val (.lst (S.map D.int)), .emp] :=
    rSet_of (i := 0) (ρ := [.emp, .val (cellP c), .emp, .emp]) (ρ1 := [.val (gsD false k bs ss T0 T), .val (cellP c), .emp, .emp]) eS rfl (by unfold cln; exact clns_ints _) (by decide)
  have q2 : ∀ t1 t2 : RS, rIf 0 (xTest (xOp2 dLt (xOpL dLen (xCons (xVar 2) xNil)) (xC (.int 2)))) t1 t2 (gsD false k bs ss T0 T) [.emp, .val (cellP c), .val (.lst (S.map D.int)), .emp] = if decide (S.length < 2) = true then t1 (gsD false k bs ss T0 T) [.emp, .val (cellP c), .val (.lst (S.map D.int)), .emp] else t2 (gsD false k bs ss T0 T) [.emp, .val (cellP c), .val (.lst (S.map D.int)), .emp] := fun t1 t2 =>
    rIf_of (i := 0) (ρ := [.emp, .val (cellP c), .val (.lst (S.map D.int)), .emp]) (ρ1 := [.val (gsD false k bs ss T0 T), .val (cellP c), .val (.lst (S.map D.int)), .emp]) eL (cln_st0 _ _)
  have body : b_Groups_merged (gsD false k bs ss T0 T) (iniM 4 [cellP c]) = if S.length < 2 then .ret (.bl false) (gsD false k bs ss T0 T) [.emp, .val (cellP c), .val (.lst (S.map D.int)), .emp] else (b_Groups_merged (gsD false k bs ss T0 T) (iniM 4 [cellP c])) := by
    by_cases h : S.length < 2
    · rw [if_pos h]
      unfold b_Groups_merged
      refine (if_pos (rfl : nVal (iniM 4 [cellP c]).tail = 1)).trans ?_
      refine (rSeq_nx q1).trans (rSeq_ret ?_)
      rw [q2, if_pos (decide_eq_true h)]
      exact rSeq_ret (rRet_of (i := 0) (ρ := [.emp, .val (cellP c), .val (.lst (S.map D.int)), .emp]) (ρ1 := [.val (gsD false k bs ss T0 T), .val (cellP c), .val (.lst (S.map D.int)), .emp]) rfl (cln_st0 _ _) rfl)
    · rw [if_neg h]
  unfold f_Groups_merged runM
  by_cases h : S.length < 2
  · rw [if_pos h] at body ⊢
    rw [body]
    rfl
  · rw [if_neg h]
    have h0 : S ≠ [] := fun z => h (by rw [z]; decide)
    have kS : ∀ T0 T : LT, xKeysV (xOp1 (dFld "Groups" "starts") (xVar 0)) [.val (gsD false k bs ss T0 T), .val (cellP c), .val (.lst (S.map D.int)), .emp] = .ok (.lst (T0.map fun e => cellP e.1)) [.val (gsD false k bs ss T0 T), .val (cellP c), .val (.lst (S.map D.int)), .emp] := fun T0 T => by
      have hk : (encE D.int T0).map (fun e => D.tup (e.1.map dKey)) = T0.map fun e => cellP e.1 := by rw [keys_enc, List.map_map]; rfl
      simp! [fld_starts, zgV, zgW, hk]
    have kA : ∀ (T0 T : LT) (s3 : Slot), xKeysV (xOp1 (dFld "Groups" "alive") (xVar 0)) [.val (gsD false k bs ss T0 T), .val (cellP c), .val (.lst (S.map D.int)), s3] = .ok (.lst (T.map fun e => cellP e.1)) [.val (gsD false k bs ss T0 T), .val (cellP c), .val (.lst (S.map D.int)), s3] := fun T0 T s3 => by
      have hk : (encE D.int T).map (fun e => D.tup (e.1.map dKey)) = T.map fun e => cellP e.1 := by rw [keys_enc, List.map_map]; rfl
      simp! [fld_alive, zgV, zgW, hk]
    have clC : ∀ T : LT, clns (T.map fun e => cellP e.1) = true := fun T => by
      have := clns_cells (T.map (·.1))
      rwa [List.map_map] at this
    have clR : ∀ s3 : Slot, clnS s3 = true → clnR [.emp, .val (cellP c), .val (.lst (S.map D.int)), s3] = true := fun s3 h => by
      show (true && (cln (cellP c) && (cln (.lst (S.map D.int)) && (clnS s3 && true)))) = true
      rw [h]
      unfold cln
      rw [clns_ints]
      rfl
    -- the two walks
    obtain ⟨g1, ρ1, r1, i1⟩ := rRun_inv (i := 0) (g := gSet 3) (tb := m_Groups_merged_1) (fun m gd ρ => gd = gsD false k bs ss (rl S m T0) T ∧ ∃ s3, clnS s3 = true ∧ ρ = [.emp, .val (cellP c), .val (.lst (S.map D.int)), s3]) (T0.map fun e => cellP e.1) 0 (gsD false k bs ss T0 T) [.emp, .val (cellP c), .val (.lst (S.map D.int)), .emp] ⟨by rw [rl_zero], _, rfl, rfl⟩ (fun m x gd ρ hm hI => by
      rw [Nat.zero_add] at hI ⊢
      obtain ⟨rfl, hρ⟩ := hI
      exact starts_turn k bs ss T hn0 hl0 c h0 hm hρ)
    rw [Nat.zero_add, List.length_map, rl_all] at i1
    obtain ⟨rfl, s3, hs3, rfl⟩ := i1
    obtain ⟨g2, ρ2, r2, i2⟩ := rRun_inv (i := 0) (g := gSet 3) (tb := m_Groups_merged_2) (fun m gd ρ => gd = gsD false k bs ss (T0.map (rel S)) (rl S m T) ∧ ∃ s3, clnS s3 = true ∧ ρ = [.emp, .val (cellP c), .val (.lst (S.map D.int)), s3]) (T.map fun e => cellP e.1) 0 (gsD false k bs ss (T0.map (rel S)) T) [.emp, .val (cellP c), .val (.lst (S.map D.int)), s3] ⟨by rw [rl_zero], _, hs3, rfl⟩ (fun m x gd ρ hm hI => by
      rw [Nat.zero_add] at hI ⊢
      obtain ⟨rfl, hρ⟩ := hI
      exact alive_turn k bs ss (T0.map (rel S)) hn hl c h0 hm hρ)
    rw [Nat.zero_add, List.length_map, rl_all] at i2
    obtain ⟨rfl, s4, hs4, rfl⟩ := i2
    unfold b_Groups_merged
    have e1 := rItL_of (i := 0) (gd := gsD false k bs ss T0 T) (ρ := [.emp, .val (cellP c), .val (.lst (S.map D.int)), .emp]) (ρ1 := [.val (gsD false k bs ss T0 T), .val (cellP c), .val (.lst (S.map D.int)), .emp]) (kS T0 T) (cln_st0 _ _) (clC T0)
    have e2 := rItL_of (i := 0) (gd := gsD false k bs ss (T0.map (rel S)) T) (ρ := [.emp, .val (cellP c), .val (.lst (S.map D.int)), s3]) (ρ1 := [.val (gsD false k bs ss (T0.map (rel S)) T), .val (cellP c), .val (.lst (S.map D.int)), s3]) (kA (T0.map (rel S)) T s3) (clR s3 hs3) (clC T)
    have whole : rArg 1 _ (gsD false k bs ss T0 T) (iniM 4 [cellP c]) = _ := (if_pos (rfl : nVal (iniM 4 [cellP c]).tail = 1)).trans ((rSeq_nx q1).trans ((rSeq_nx ((q2 (rSeq (rRet 0 (xC (.bl false))) rNil) rNil).trans (if_neg (by rw [decide_eq_false h]; decide)))).trans ((rSeq_nx ((rFor_of e1).trans r1)).trans ((rSeq_nx ((rFor_of e2).trans r2)).trans (rSeq_ret (t2 := rNil) (rRet_of (i := 0) (te := xC (.bl true)) (ρ := [.emp, .val (cellP c), .val (.lst (S.map D.int)), s4]) (ρ1 := [.val (gsD false k bs ss (T0.map (rel S)) (T.map (rel S))), .val (cellP c), .val (.lst (S.map D.int)), s4]) rfl (clR s4 hs4) rfl))))))
    exact congrArg endM whole

def keysL (T : LT) : List (Int × Int) := sortE (T.map (·.1))
theorem mem_keysL {T : LT} {c : Int × Int} : c ∈ keysL T ↔ (lkA T c).isSome = true := by
  unfold keysL
  rw [mem_sortE, mem_keys]
def goT (k : Int) (bs ss : List Int) (T : LT) : LT := (nextP k bs ss (keysL T)).map fun c => (c, (nearN k T c).headD 0)
theorem mem_sortI {ns : List Int} {w : Int} : w ∈ sortI ns ↔ w ∈ ns := by
  unfold sortI
  rw [(isortB_perm _).mem_iff, mem_dd]
theorem n9_neg {k : Int} {d : Int × Int} (h : d ∈ n9 k) : (-d.1, -d.2) ∈ n9 k := by
  unfold n9 at h ⊢
  split at h <;> (revert d; decide)
theorem mem_nums {k : Int} {T : LT} {c : Int × Int} {w : Int} : w ∈ nums k T c ↔ ∃ d ∈ n9 k, lkA T (sh d c) = some w := by
  unfold nums
  rw [List.mem_map]
  constructor
  · rintro ⟨p, hp, rfl⟩
    obtain ⟨h1, h2⟩ := List.mem_filter.mp hp
    obtain ⟨d, hd, rfl⟩ := List.mem_map.mp h1
    obtain ⟨x, hx⟩ := Option.isSome_iff_exists.mp h2
    exact ⟨d, hd, by rw [hx]; rfl⟩
  · rintro ⟨d, hd, h⟩
    exact ⟨sh d c, List.mem_filter.mpr ⟨List.mem_map_of_mem hd, by rw [h]; rfl⟩, by rw [h]; rfl⟩
theorem mem_nearN {k : Int} {T : LT} {c : Int × Int} {w : Int} : w ∈ nearN k T c ↔ ∃ d ∈ n9 k, lkA T (sh d c) = some w := by
  unfold nearN
  rw [mem_sortI, mem_nums]
theorem sh_neg (d p : Int × Int) : sh (-d.1, -d.2) (sh d p) = p := by
  obtain ⟨a, b⟩ := d
  obtain ⟨x, y⟩ := p
  unfold sh
  simp only [Prod.mk.injEq]
  omega
/-- who hangs on a living cell sees its number -/
theorem near_of {k : Int} {T : LT} {p c : Int × Int} {w : Int} (h : lkA T p = some w) {d : Int × Int} (hd : d ∈ n9 k) (e : sh d p = c) : w ∈ nearN k T c := by
  rw [mem_nearN]
  exact ⟨(-d.1, -d.2), n9_neg hd, by rw [← e, sh_neg]; exact h⟩
theorem near_ne {k : Int} (hk : Kind k) {bs : List Int} (hq : 0 ∉ bs) (ss : List Int) (T : LT) {c : Int × Int} (h : c ∈ nextP k bs ss (keysL T)) : nearN k T c ≠ [] := by
  have h9 := next9 hk hq ss (keysL T) ((mem_nextP hq ss _ c).mp h)
  unfold imgs9 at h9
  obtain ⟨p, hp, h9⟩ := List.mem_flatMap.mp h9
  obtain ⟨d, hd, e⟩ := List.mem_map.mp h9
  obtain ⟨w, hw⟩ := Option.isSome_iff_exists.mp (mem_keysL.mp hp)
  have := near_of hw hd e
  exact fun z => by rw [z] at this; exact absurd this List.not_mem_nil
theorem pt_new {L : LT} {c : Int × Int} (h : c ∉ L.map (·.1)) (v : Int) : ptA L c v = L ++ [(c, v)] := by
  unfold ptA
  rw [lkA_any, if_neg (fun z => h ((mem_keys _ _).mpr z))]
theorem cln_go (L : LT) (s2 : Slot) (h : clnS s2 = true) : clnR [.emp, .own (.dicT false (encE D.int L)), s2] = true := by
  show (true && (clns ((encE D.int L).map (·.2)) && (clnS s2 && true))) = true
  rw [clns_encI, h]
  rfl
theorem go_turn {k : Int} (hk : Kind k) {bs : List Int} (hq : 0 ∉ bs) (ss : List Int) (T0 T : LT) (hl : (nextP k bs ss (keysL T)).length ≤ 10000) {m : Nat} {x : D} {ρ : Rho} (hm : ((nextP k bs ss (keysL T)).map cellP)[m]? = some x) (hρ : ∃ s2, clnS s2 = true ∧ ρ = [.emp, .own (.dicT false (encE D.int ((goT k bs ss T).take m))), s2]) :
    ∃ ρ2 gd' ρ3, ρ2[0]? = some .emp ∧ (∀ p, gSet 2 x (ρ.set 0 (.adr p)) = some (ρ2.set 0 (.adr p))) ∧ m_Groups_go_on_1 (gsD false k bs ss T0 T) ρ2 = .nx gd' ρ3 ∧ gd' = gsD false k bs ss T0 T ∧ ∃ s2, clnS s2 = true ∧ ρ3 = [.emp, .own (.dicT false (encE D.int ((goT k bs ss T).take (m + 1)))), s2] := by
  obtain ⟨s2, _, rfl⟩ := hρ
  rw [List.getElem?_map] at hm
  obtain ⟨⟨a, b⟩, he, rfl⟩ := Option.map_eq_some_iff.mp hm
  have hc : ((a, b) : Int × Int) ∈ nextP k bs ss (keysL T) := List.mem_of_getElem? he
  have hne := near_ne hk hq ss T hc
  have en := near_is2 false k bs ss T0 T (a, b)
  have hI : isIns "Groups" "near" (gsD false k bs ss T0 T) = true := rfl
  have hg : (goT k bs ss T)[m]? = some ((a, b), (nearN k T (a, b)).headD 0) := by
    unfold goT
    rw [List.getElem?_map, he]
    rfl
  have hk0 : (goT k bs ss T).map (·.1) = nextP k bs ss (keysL T) := by
    unfold goT
    rw [List.map_map]
    exact List.map_id _
  have hnew : ((a, b) : Int × Int) ∉ ((goT k bs ss T).take m).map (·.1) := by
    rw [List.map_take, hk0]
    intro z
    have hn := (nextP_pic k bs ss (keysL T)).nodup
    have := take_snoc he
    have hs : ((nextP k bs ss (keysL T)).take (m + 1)).Nodup := hn.sublist (List.take_sublist _ _)
    rw [this, List.nodup_append] at hs
    exact hs.2.2 _ z _ (List.mem_singleton.mpr rfl) rfl
  have hlen : (goT k bs ss T).length ≤ 10000 := by unfold goT; rw [List.length_map]; exact hl
  have hz : (encE D.int ((goT k bs ss T).take m)).length < sizeLine := by
    rw [encE_len, List.length_take]
    exact szBl (by omega)
  refine ⟨[.emp, .own (.dicT false (encE D.int ((goT k bs ss T).take m))), .val (cellP (a, b))], _, _, rfl, fun p => rfl, ?_, rfl, .val (cellP (a, b)), rfl, rfl⟩
  have eV : xOp2 dIx (xMeth "Groups" "near" f_Groups_near (xVar 0) (xCons (xVar 2) xNil)) (xC (.int 0)) [.val (gsD false k bs ss T0 T), .own (.dicT false (encE D.int ((goT k bs ss T).take m))), .val (cellP (a, b))] = .ok (.int ((nearN k T (a, b)).headD 0)) [.val (gsD false k bs ss T0 T), .own (.dicT false (encE D.int ((goT k bs ss T).take m))), .val (cellP (a, b))] := by
    simp! [meth1_of hI, zjm, en, at_head hne]
  have hp : dPutD (.dicT false (encE D.int ((goT k bs ss T).take m))) (cellP (a, b)) (.int ((nearN k T (a, b)).headD 0)) = some (.dicT false (encE D.int ((goT k bs ss T).take (m + 1)))) := by
    show dPutD _ (.tup [.int a, .int b]) _ = _
    rw [zgR hz, pt_int, pt_new hnew, take_snoc hg]
  unfold m_Groups_go_on_1
  exact (rSeq_nx (rLPut_of (i := 0) (j := 1) (ρ := [.emp, .own (.dicT false (encE D.int ((goT k bs ss T).take m))), .val (cellP (a, b))]) eV (cln_go _ _ rfl) rfl (rfl : xVar 2 _ = .ok (cellP (a, b)) [.val (gsD false k bs ss T0 T), .own (.dicT false (encE D.int ((goT k bs ss T).take m))), .val (cellP (a, b))]) (cln_go _ _ rfl) rfl (by decide) rfl rfl rfl hp)).trans rfl
theorem go_on_is {k : Int} (hk : Kind k) {bs : List Int} (hq : 0 ∉ bs) (ss : List Int) (T0 T : LT) (hT : T.length ≤ manyS) (hs : Sm k (keysL T)) (hl : (nextP k bs ss (keysL T)).length ≤ 10000) : f_Groups_go_on (gsD false k bs ss T0 T) [] = some (.non, gsD false k bs ss T0 (goT k bs ss T)) := by
  have en := next_is hk hq ss (keysL T) hs.1 hs.2
  have es := zlz D.int false T hT
  have eI : xCall f_next_turn (xCons (xOp1 (dFld "Groups" "told") (xVar 0)) (xCons (xSortDV (xOp1 (dFld "Groups" "alive") (xVar 0))) xNil)) [.val (gsD false k bs ss T0 T), .own (.dicT false []), .emp] = .ok (.lst ((nextP k bs ss (keysL T)).map cellP)) [.val (gsD false k bs ss T0 T), .own (.dicT false []), .emp] := by
    unfold keysL at en
    simp! [ruleD] at en
    simp! [fld_told, fld_alive, zly, es, ruleD, en]
    rfl
  obtain ⟨g1, ρ1, r1, i1⟩ := rRun_inv (i := 0) (g := gSet 2) (tb := m_Groups_go_on_1) (fun m gd ρ => gd = gsD false k bs ss T0 T ∧ ∃ s2, clnS s2 = true ∧ ρ = [.emp, .own (.dicT false (encE D.int ((goT k bs ss T).take m))), s2]) ((nextP k bs ss (keysL T)).map cellP) 0 (gsD false k bs ss T0 T) [.emp, .own (.dicT false []), .emp] ⟨rfl, _, rfl, by rw [List.take_zero]; rfl⟩ (fun m x gd ρ hm hI => by
    rw [Nat.zero_add] at hI ⊢
    obtain ⟨rfl, hρ⟩ := hI
    exact go_turn hk hq ss T0 T hl hm hρ)
  have hlen : (goT k bs ss T).length = (nextP k bs ss (keysL T)).length := by unfold goT; rw [List.length_map]
  rw [Nat.zero_add, List.length_map, ← hlen, List.take_length] at i1
  obtain ⟨rfl, s2, hs2, rfl⟩ := i1
  have e0 : rOld 0 (xSetO 1 (xC (.dicT false []))) (gsD false k bs ss T0 T) (iniM 3 []) = .nx (gsD false k bs ss T0 T) [.emp, .own (.dicT false []), .emp] := rOld_of rfl fun p => rfl
  have e1 := rItL_of (i := 0) (gd := gsD false k bs ss T0 T) (ρ := [.emp, .own (.dicT false []), .emp]) (ρ1 := [.val (gsD false k bs ss T0 T), .own (.dicT false []), .emp]) eI (cln_go [] .emp rfl) (clns_cells _)
  have e2 : rFTake 0 1 "Groups" "alive" (gsD false k bs ss T0 T) [.emp, .own (.dicT false (encE D.int (goT k bs ss T))), s2] = .nx (gsD false k bs ss T0 (goT k bs ss T)) [.emp, .emp, s2] := rFTake_of (i := 0) (j := 1) (ρ := [.emp, .own (.dicT false (encE D.int (goT k bs ss T))), s2]) rfl rfl (by decide)
  have whole : b_Groups_go_on (gsD false k bs ss T0 T) (iniM 3 []) = .nx (gsD false k bs ss T0 (goT k bs ss T)) [.emp, .emp, s2] := by
    unfold b_Groups_go_on
    exact (if_pos (rfl : nVal (iniM 3 []).tail = 0)).trans ((rSeq_nx e0).trans ((rSeq_nx ((rFor_of e1).trans r1)).trans ((rSeq_nx e2).trans rfl)))
  unfold f_Groups_go_on runM
  rw [whole]
  rfl

abbrev GC := List (Int × List (Int × Int))
def addC (G : GC) (w : Int) (c : Int × Int) : GC := if w ∈ G.map (·.1) then G.map (fun e => if e.1 = w then (e.1, e.2 ++ [c]) else e) else G ++ [(w, [c])]
def toG (G : GC) : GL := G.map fun e => (e.1, e.2.map cellP)
theorem toG_fst (G : GC) : (toG G).map (·.1) = G.map (·.1) := by
  unfold toG
  rw [List.map_map]
  rfl
theorem addG_is (G : GC) (w : Int) (c : Int × Int) : addG (toG G) w (cellP c) = toG (addC G w c) := by
  unfold addG addC
  rw [toG_fst]
  by_cases h : w ∈ G.map (·.1)
  · rw [if_pos h, if_pos h]
    unfold toG
    rw [List.map_map, List.map_map]
    refine List.map_congr_left fun e _ => ?_
    show (if e.1 = w then (e.1, e.2.map cellP ++ [cellP c]) else (e.1, e.2.map cellP)) = ((if e.1 = w then (e.1, e.2 ++ [c]) else e).1, (if e.1 = w then (e.1, e.2 ++ [c]) else e).2.map cellP)
    by_cases he : e.1 = w
    · rw [if_pos he, if_pos he, List.map_append]; rfl
    · rw [if_neg he, if_neg he]
  · rw [if_neg h, if_neg h]
    unfold toG
    rw [List.map_append]
    rfl
def grpL (lab : Int × Int → Int) (cs : List (Int × Int)) : GC := cs.foldl (fun G c => addC G (lab c) c) []
theorem grpL_snoc (lab : Int × Int → Int) (cs : List (Int × Int)) (c : Int × Int) : grpL lab (cs ++ [c]) = addC (grpL lab cs) (lab c) c := List.foldl_append ..
/-- the groups: for each number its cells, in order -/
theorem grpL_ok (lab : Int × Int → Int) : ∀ (n : Nat) (cs : List (Int × Int)), cs.length = n → ((grpL lab cs).map (·.1)).Nodup ∧ (∀ e ∈ grpL lab cs, e.2 = cs.filter (fun c => decide (lab c = e.1)) ∧ e.2 ≠ []) ∧ (∀ c ∈ cs, lab c ∈ (grpL lab cs).map (·.1)) ∧ (grpL lab cs).length ≤ n
  | 0, cs, h => by
    rw [List.length_eq_zero_iff.mp h]
    exact ⟨List.nodup_nil, fun e h => absurd h List.not_mem_nil, fun e h => absurd h List.not_mem_nil, Nat.le_refl _⟩
  | n + 1, cs, h => by
    obtain ⟨r, c, rfl⟩ : ∃ r c, cs = r ++ [c] := by
      have hne : cs ≠ [] := fun z => by rw [z] at h; cases h
      exact ⟨_, _, (List.dropLast_concat_getLast hne).symm⟩
    have hr : r.length = n := by rw [List.length_append] at h; exact Nat.succ.inj h
    obtain ⟨i1, i2, i3, i4⟩ := grpL_ok lab n r hr
    rw [grpL_snoc]
    unfold addC
    have flt : ∀ w, (r ++ [c]).filter (fun c => decide (lab c = w)) = if lab c = w then r.filter (fun c => decide (lab c = w)) ++ [c] else r.filter (fun c => decide (lab c = w)) := fun w => by
      rw [List.filter_append]
      by_cases h : lab c = w
      · rw [if_pos h]
        simp [h]
      · rw [if_neg h]
        simp [h]
    by_cases hk : lab c ∈ (grpL lab r).map (·.1)
    · rw [if_pos hk]
      have hf : ((grpL lab r).map (fun e => if e.1 = lab c then (e.1, e.2 ++ [c]) else e)).map (·.1) = (grpL lab r).map (·.1) := by
        rw [List.map_map]
        refine List.map_congr_left fun e _ => ?_
        show (if e.1 = lab c then (e.1, e.2 ++ [c]) else e).1 = e.1
        split <;> rfl
      refine ⟨by rw [hf]; exact i1, fun e he => ?_, fun d hd => ?_, by rw [List.length_map]; omega⟩
      · obtain ⟨f, hf, rfl⟩ := List.mem_map.mp he
        obtain ⟨q1, q2⟩ := i2 f hf
        by_cases hw : f.1 = lab c
        · simp only [if_pos hw]
          rw [flt, if_pos hw.symm, ← q1]
          exact ⟨rfl, fun z => by simp at z⟩
        · simp only [if_neg hw]
          rw [flt, if_neg (fun z => hw z.symm)]
          exact ⟨q1, q2⟩
      · rw [hf]
        rcases List.mem_append.mp hd with hd | hd
        · exact i3 d hd
        · rw [List.mem_singleton.mp hd]; exact hk
    · rw [if_neg hk]
      have hne : ∀ e ∈ grpL lab r, e.1 ≠ lab c := fun e he z => hk (by rw [← z]; exact List.mem_map_of_mem (f := (·.1)) he)
      have hno : r.filter (fun d => decide (lab d = lab c)) = [] := by
        rw [List.filter_eq_nil_iff]
        intro d hd z
        rw [decide_eq_true_eq] at z
        exact hk (by rw [← z]; exact i3 d hd)
      refine ⟨?_, fun e he => ?_, fun d hd => ?_, by rw [List.length_append]; exact Nat.add_le_add_right i4 1⟩
      · rw [List.map_append, List.nodup_append]
        exact ⟨i1, List.pairwise_singleton _ _, fun a ha b hb z => hk (by rw [List.mem_singleton.mp hb] at z; rw [← show a = lab c from z]; exact ha)⟩
      · rcases List.mem_append.mp he with he | he
        · obtain ⟨q1, q2⟩ := i2 e he
          rw [flt, if_neg (fun z => hne e he z.symm)]
          exact ⟨q1, q2⟩
        · rw [List.mem_singleton.mp he, flt, if_pos rfl, hno]
          exact ⟨rfl, fun z => by cases z⟩
      · rw [List.map_append, List.mem_append]
        rcases List.mem_append.mp hd with hd | hd
        · exact .inl (i3 d hd)
        · rw [List.mem_singleton.mp hd]; exact .inr (List.mem_singleton.mpr rfl)
theorem small_grp (lab : Int × Int → Int) (cs : List (Int × Int)) (h : cs.length < 1000) : smallG (toG (grpL lab cs)) = true := by
  obtain ⟨_, i2, _, i4⟩ := grpL_ok lab _ cs rfl
  unfold smallG
  rw [Bool.and_eq_true, decide_eq_true_eq, List.all_eq_true]
  refine ⟨by unfold toG; rw [List.length_map]; omega, fun e he => ?_⟩
  obtain ⟨f, hf, rfl⟩ := List.mem_map.mp he
  rw [decide_eq_true_eq, List.length_map, (i2 f hf).1]
  exact Nat.lt_of_le_of_lt (List.length_filter_le _ _) h
def labT (T : LT) (c : Int × Int) : Int := (lkA T c).getD 0
/-- the parts: the cells of each number, sorted -/
def partsL (T0 : LT) : List (List (Int × Int)) := sortE ((grpL (labT T0) (keysL T0)).map (·.2))
theorem grp_run (z : Bool) (k : Int) (bs ss : List Int) (T0 T : LT) : ∀ (cs pre : List (Int × Int)), (pre ++ cs).length < 1000 → (∀ c ∈ cs, (lkA T0 c).isSome = true) → ∀ s2, ∃ s2', grpRun 1 (gSet 2) (xDIxV (xOp1 (dFld "Groups" "starts") (xVar 0)) (xVar 2)) (xVar 2) (cs.map cellP) (toG (grpL (labT T0) pre)) [.val (gsD z k bs ss T0 T), .emp, s2] = some (toG (grpL (labT T0) (pre ++ cs)), [.val (gsD z k bs ss T0 T), .emp, s2'])
  | [], pre, _, _, s2 => ⟨s2, by rw [List.append_nil]; rfl⟩
  | c :: cs, pre, hl, hc, s2 => by
    obtain ⟨s2', h⟩ := grp_run z k bs ss T0 T cs (pre ++ [c]) (by rw [List.append_assoc]; exact hl) (fun d hd => hc d (List.mem_cons_of_mem _ hd)) (.val (cellP c))
    rw [grpL_snoc, ← addG_is, List.append_assoc] at h
    refine ⟨s2', ?_⟩
    obtain ⟨a, b⟩ := c
    obtain ⟨w, hw⟩ := Option.isSome_iff_exists.mp (hc (a, b) List.mem_cons_self)
    have hk := lk_enc D.int T0 (a, b)
    rw [hw] at hk
    have hk : lk (encE D.int T0) (ck (a, b)) = some (.int w) := hk
    have lw : labT T0 (a, b) = w := by unfold labT; rw [hw]; rfl
    rw [lw] at h
    have eK : xDIxV (xOp1 (dFld "Groups" "starts") (xVar 0)) (xVar 2) [.val (gsD z k bs ss T0 T), .emp, .val (cellP (a, b))] = .ok (.int w) [.val (gsD z k bs ss T0 T), .emp, .val (cellP (a, b))] := by
      simp! [fld_starts, cellP, zgA, hk]
    have hu : unifO 1 (fun p => gSet 2 (cellP (a, b)) ([Slot.val (gsD z k bs ss T0 T), .emp, s2].set 1 (.adr p))) = some [.val (gsD z k bs ss T0 T), .emp, .val (cellP (a, b))] := unifO_of rfl fun p => rfl
    have hsm : smallG (toG (grpL (labT T0) pre)) = true := small_grp _ _ (by rw [List.length_append] at hl; omega)
    rw [List.map_cons]
    unfold grpRun
    rw [hu]
    simp only [eK]
    show (if smallG (toG (grpL (labT T0) pre)) = true then grpRun 1 (gSet 2) _ (xVar 2) (cs.map cellP) (addG (toG (grpL (labT T0) pre)) w (cellP (a, b))) _ else none) = _
    rw [if_pos hsm]
    exact h
theorem parts_is (z : Bool) (k : Int) (bs ss : List Int) (T0 T : LT) (hl : T0.length ≤ 440) : f_Groups_parts [gsD z k bs ss T0 T] = .ok (.lst ((partsL T0).map cells)) [] := by
  have es := zlz D.int z T0 (by unfold manyS; omega)
  have eI : xSortDV (xOp1 (dFld "Groups" "starts") (xVar 0)) [.val (gsD z k bs ss T0 T), .emp, .emp] = .ok (.lst ((keysL T0).map cellP)) [.val (gsD z k bs ss T0 T), .emp, .emp] := by
    unfold keysL
    simp! [fld_starts, zly, es, cells]
  have kl : (keysL T0).length = T0.length := by unfold keysL; rw [sortE_length, List.length_map]
  obtain ⟨s2, h⟩ := grp_run z k bs ss T0 T (keysL T0) [] (by rw [List.nil_append, kl]; omega) (fun c hc => mem_keysL.mp hc) .emp
  rw [List.nil_append] at h
  have hd : dSorted [.lst ((toG (grpL (labT T0) (keysL T0))).map fun e => .lst e.2)] = some (.lst ((partsL T0).map cells)) := by
    have := dSorted_enc (α := List (Int × Int)) (by decide) ((grpL (labT T0) (keysL T0)).map (·.2))
    unfold toG
    rw [List.map_map] at this ⊢
    exact this
  have e1 : b_Groups_parts [.val (gsD z k bs ss T0 T), .emp, .emp] = .ret (.lst ((partsL T0).map cells)) [.val (gsD z k bs ss T0 T), .emp, s2] := by
    unfold b_Groups_parts xGroup
    rw [if_pos ⟨rfl, (by simp : 1 < 3)⟩]
    show grp1 1 _ _ _ (xSortDV (xOp1 (dFld "Groups" "starts") (xVar 0)) [.val (gsD z k bs ss T0 T), .emp, .emp]) = _
    rw [eI]
    unfold grp1
    simp only
    have hE : isEmp 1 [Slot.val (gsD z k bs ss T0 T), Slot.emp, Slot.emp] = true := rfl
    rw [if_pos hE]
    have h0 : toG (grpL (labT T0) []) = [] := rfl
    rw [h0] at h
    rw [h]
    unfold grpEnd
    simp only [hd]
  unfold f_Groups_parts
  simp! [e1]

/-- each cell a number of its own -/
def numF : Nat → List (Int × Int) → LT
  | _, [] => []
  | n, c :: r => (c, (n : Int)) :: numF (n + 1) r
theorem numF_get : ∀ (l : List (Int × Int)) (n i : Nat), (numF n l)[i]? = l[i]?.map fun c => (c, ((n + i : Nat) : Int))
  | [], n, i => by simp [numF]
  | c :: l, n, 0 => by simp [numF]
  | c :: l, n, i + 1 => by
    unfold numF
    rw [List.getElem?_cons_succ, List.getElem?_cons_succ, numF_get l (n + 1) i, show n + 1 + i = n + (i + 1) by omega]
theorem numF_fst : ∀ (l : List (Int × Int)) (n : Nat), (numF n l).map (·.1) = l
  | [], _ => rfl
  | c :: l, n => by unfold numF; rw [List.map_cons, numF_fst l]
def numT (l : List (Int × Int)) : LT := numF 0 l
theorem numT_fst (l : List (Int × Int)) : (numT l).map (·.1) = l := numF_fst l 0
theorem numT_len (l : List (Int × Int)) : (numT l).length = l.length := by
  have := congrArg List.length (numT_fst l)
  rwa [List.length_map] at this
theorem cln_rule (k : Int) (bs ss : List Int) : cln (ruleD k bs ss) = true := by
  unfold ruleD
  simp only [cln, clns, clns_ints, Bool.and_true]
theorem cln_cells (l : List (Int × Int)) : cln (cells l) = true := by
  unfold cells
  simp only [cln, clns_cells]
theorem cln_ini (k : Int) (bs ss : List Int) (l : List (Int × Int)) {s3 s4 : Slot} (h3 : clnS s3 = true) (h4 : clnS s4 = true) : clnR [.emp, .val (ruleD k bs ss), .val (cells l), s3, s4] = true := by
  show (true && (cln (ruleD k bs ss) && (cln (cells l) && (clnS s3 && (clnS s4 && true))))) = true
  rw [cln_rule, cln_cells, h3, h4]
  rfl
theorem init_turn (k : Int) (bs ss : List Int) {live : List (Int × Int)} (hn : live.Nodup) (hl : live.length ≤ 440) {m : Nat} {x : D} {ρ : Rho} (hm : (enumF 0 (live.map cellP))[m]? = some x) (hρ : ∃ s3 s4, clnS s3 = true ∧ clnS s4 = true ∧ ρ = [.emp, .val (ruleD k bs ss), .val (cells live), s3, s4]) :
    ∃ ρ2 gd' ρ3, ρ2[0]? = some .emp ∧ (∀ p, gsTup 2 (gsCons (gSet 3) (gsCons (gSet 4) gsNil)) x (ρ.set 0 (.adr p)) = some (ρ2.set 0 (.adr p))) ∧ m_Groups___init_1 (gsD false k bs ss ((numT live).take m) ((numT live).take m)) ρ2 = .nx gd' ρ3 ∧ gd' = gsD false k bs ss ((numT live).take (m + 1)) ((numT live).take (m + 1)) ∧ ∃ s3 s4, clnS s3 = true ∧ clnS s4 = true ∧ ρ3 = [.emp, .val (ruleD k bs ss), .val (cells live), s3, s4] := by
  obtain ⟨s3, s4, _, _, rfl⟩ := hρ
  rw [enumF_get, List.getElem?_map] at hm
  obtain ⟨d, hd, rfl⟩ := Option.map_eq_some_iff.mp hm
  obtain ⟨⟨a, b⟩, he, rfl⟩ := Option.map_eq_some_iff.mp hd
  rw [Nat.zero_add] at hm ⊢
  have hg : (numT live)[m]? = some ((a, b), (m : Int)) := by
    unfold numT
    rw [numF_get, he, Nat.zero_add]
    rfl
  have hnew : ((a, b) : Int × Int) ∉ ((numT live).take m).map (·.1) := by
    rw [List.map_take, numT_fst]
    intro z
    have hs : (live.take (m + 1)).Nodup := hn.sublist (List.take_sublist _ _)
    rw [take_snoc he, List.nodup_append] at hs
    exact hs.2.2 _ z _ (List.mem_singleton.mpr rfl) rfl
  have hz : (encE D.int ((numT live).take m)).length < sizeLine := by
    rw [encE_len, List.length_take, numT_len]
    exact szBl (by omega)
  have hp : dPutD (.dicT false (encE D.int ((numT live).take m))) (cellP (a, b)) (.int (m : Int)) = some (.dicT false (encE D.int ((numT live).take (m + 1)))) := by
    show dPutD _ (.tup [.int a, .int b]) _ = _
    rw [zgR hz, pt_int, pt_new hnew, take_snoc hg]
  refine ⟨[.emp, .val (ruleD k bs ss), .val (cells live), .val (.int (m : Int)), .val (cellP (a, b))], _, _, rfl, fun p => rfl, ?_, rfl, .val (.int (m : Int)), .val (cellP (a, b)), rfl, rfl, rfl⟩
  unfold m_Groups___init_1
  have q1 := rDPut_of (i := 0) (c := "Groups") (f := "starts") (tk := xVar 4) (te := xVar 3) (gd := gsD false k bs ss ((numT live).take m) ((numT live).take m)) (ρ := [.emp, .val (ruleD k bs ss), .val (cells live), .val (.int (m : Int)), .val (cellP (a, b))]) (rfl : xVar 3 _ = .ok (.int (m : Int)) [.val (gsD false k bs ss ((numT live).take m) ((numT live).take m)), .val (ruleD k bs ss), .val (cells live), .val (.int (m : Int)), .val (cellP (a, b))]) (cln_ini k bs ss live rfl rfl) rfl (rfl : xVar 4 _ = .ok (cellP (a, b)) [.val (gsD false k bs ss ((numT live).take m) ((numT live).take m)), .val (ruleD k bs ss), .val (cells live), .val (.int (m : Int)), .val (cellP (a, b))]) (cln_ini k bs ss live rfl rfl) rfl rfl rfl rfl hp rfl
  have q2 := rDPut_of (i := 0) (c := "Groups") (f := "alive") (tk := xVar 4) (te := xVar 3) (gd := gsD false k bs ss ((numT live).take (m + 1)) ((numT live).take m)) (ρ := [.emp, .val (ruleD k bs ss), .val (cells live), .val (.int (m : Int)), .val (cellP (a, b))]) (rfl : xVar 3 _ = .ok (.int (m : Int)) [.val (gsD false k bs ss ((numT live).take (m + 1)) ((numT live).take m)), .val (ruleD k bs ss), .val (cells live), .val (.int (m : Int)), .val (cellP (a, b))]) (cln_ini k bs ss live rfl rfl) rfl (rfl : xVar 4 _ = .ok (cellP (a, b)) [.val (gsD false k bs ss ((numT live).take (m + 1)) ((numT live).take m)), .val (ruleD k bs ss), .val (cells live), .val (.int (m : Int)), .val (cellP (a, b))]) (cln_ini k bs ss live rfl rfl) rfl rfl rfl rfl hp rfl
  exact (rSeq_nx q1).trans ((rSeq_nx q2).trans rfl)
theorem init_is {k : Int} (hk : Kind k) (bs ss : List Int) {live : List (Int × Int)} (hn : live.Nodup) (hl : live.length ≤ 440) : f_Groups___init (.inst "Groups" []) [ruleD k bs ss, cells live] = some (.non, gsD false k bs ss (numT live) (numT live)) := by
  have eh := hangs_is hk
  have q1 : rFSet 0 "Groups" "told" (xVar 1) (.inst "Groups" []) (iniM 5 [ruleD k bs ss, cells live]) = .nx (.inst "Groups" [("told", ruleD k bs ss)]) [.emp, .val (ruleD k bs ss), .val (cells live), .emp, .emp] :=
    rFSet_of (i := 0) (ρ := iniM 5 [ruleD k bs ss, cells live]) (ρ1 := [.val (.inst "Groups" []), .val (ruleD k bs ss), .val (cells live), .emp, .emp]) rfl (cln_ini k bs ss live rfl rfl) (cln_rule k bs ss) rfl
  have e2 : xCall f_hangs_on (xCons (xOp2 dIx (xVar 1) (xC (.int 0))) (xCons (xOpL dTup (xCons (xC (.int 0)) (xCons (xC (.int 0)) xNil))) xNil)) [.val (.inst "Groups" [("told", ruleD k bs ss)]), .val (ruleD k bs ss), .val (cells live), .emp, .emp] = .ok (cells (n9 k)) [.val (.inst "Groups" [("told", ruleD k bs ss)]), .val (ruleD k bs ss), .val (cells live), .emp, .emp] := by
    simp! [ruleD, eh]
  have q2 : rFSet 0 "Groups" "steps" (xCall f_hangs_on (xCons (xOp2 dIx (xVar 1) (xC (.int 0))) (xCons (xOpL dTup (xCons (xC (.int 0)) (xCons (xC (.int 0)) xNil))) xNil))) (.inst "Groups" [("told", ruleD k bs ss)]) [.emp, .val (ruleD k bs ss), .val (cells live), .emp, .emp] = .nx (.inst "Groups" [("told", ruleD k bs ss), ("steps", cells (n9 k))]) [.emp, .val (ruleD k bs ss), .val (cells live), .emp, .emp] :=
    rFSet_of (i := 0) (ρ := [.emp, .val (ruleD k bs ss), .val (cells live), .emp, .emp]) e2 (cln_ini k bs ss live rfl rfl) (cln_cells _) rfl
  have q3 : rFNew "Groups" "starts" (.inst "Groups" [("told", ruleD k bs ss), ("steps", cells (n9 k))]) [.emp, .val (ruleD k bs ss), .val (cells live), .emp, .emp] = .nx (.inst "Groups" [("told", ruleD k bs ss), ("steps", cells (n9 k)), ("starts", .dicT false [])]) [.emp, .val (ruleD k bs ss), .val (cells live), .emp, .emp] := rFNew_of rfl
  have q4 : rFNew "Groups" "alive" (.inst "Groups" [("told", ruleD k bs ss), ("steps", cells (n9 k)), ("starts", .dicT false [])]) [.emp, .val (ruleD k bs ss), .val (cells live), .emp, .emp] = .nx (gsD false k bs ss [] []) [.emp, .val (ruleD k bs ss), .val (cells live), .emp, .emp] := rFNew_of rfl
  obtain ⟨g1, ρ1, r1, i1⟩ := rRun_inv (i := 0) (g := gsTup 2 (gsCons (gSet 3) (gsCons (gSet 4) gsNil))) (tb := m_Groups___init_1) (fun m gd ρ => gd = gsD false k bs ss ((numT live).take m) ((numT live).take m) ∧ ∃ s3 s4, clnS s3 = true ∧ clnS s4 = true ∧ ρ = [.emp, .val (ruleD k bs ss), .val (cells live), s3, s4]) (enumF 0 (live.map cellP)) 0 (gsD false k bs ss [] []) [.emp, .val (ruleD k bs ss), .val (cells live), .emp, .emp] ⟨by rw [List.take_zero], _, _, rfl, rfl, rfl⟩ (fun m x gd ρ hm hI => by
    rw [Nat.zero_add] at hI ⊢
    obtain ⟨rfl, hρ⟩ := hI
    exact init_turn k bs ss hn hl hm hρ)
  rw [Nat.zero_add, enumF_len, List.length_map, ← numT_len, List.take_length] at i1
  obtain ⟨rfl, s3, s4, _, _, rfl⟩ := i1
  have e5 := rItE_of (i := 0) (te := xVar 2) (gd := gsD false k bs ss [] []) (ρ := [.emp, .val (ruleD k bs ss), .val (cells live), .emp, .emp]) (rfl : xVar 2 _ = .ok (.lst (live.map cellP)) [.val (gsD false k bs ss [] []), .val (ruleD k bs ss), .val (cells live), .emp, .emp]) (cln_ini k bs ss live rfl rfl) (clns_cells _)
  have whole : b_Groups___init (.inst "Groups" []) (iniM 5 [ruleD k bs ss, cells live]) = .nx (gsD false k bs ss (numT live) (numT live)) [.emp, .val (ruleD k bs ss), .val (cells live), s3, s4] := by
    unfold b_Groups___init
    exact (if_pos (rfl : nVal (iniM 5 [ruleD k bs ss, cells live]).tail = 2)).trans ((rSeq_nx q1).trans ((rSeq_nx q2).trans ((rSeq_nx q3).trans ((rSeq_nx q4).trans ((rSeq_nx ((rFor_of e5).trans r1)).trans rfl)))))
  unfold f_Groups___init runM
  rw [whole]
  rfl

def jD (j : Int × (Int × Int)) : D := .tup [.int j.1, cellP j.2]
theorem clns_jD (J : List (Int × (Int × Int))) : clns (J.map jD) = true := by
  induction J with
  | nil => rfl
  | cons p L ih => rw [List.map_cons]; unfold clns; rw [ih]; rfl
abbrev GSt := LT × LT × List (Int × (Int × Int))
/-- one crowded cell: its groups become one, a join is written down -/
def jStep (k t : Int) (s : GSt) (c : Int × Int) : GSt := if (nearN k s.2.1 c).length < 2 then s else (s.1.map (rel (nearN k s.2.1 c)), s.2.1.map (rel (nearN k s.2.1 c)), s.2.2 ++ [(t, c)])
/-- a turn -/
def gTurn (k : Int) (bs ss : List Int) (s : GSt) (t : Int) : GSt := (((crowdL k s.2.1).foldl (jStep k t) s).1, goT k bs ss ((crowdL k s.2.1).foldl (jStep k t) s).2.1, ((crowdL k s.2.1).foldl (jStep k t) s).2.2)
theorem jStep_keys (k t : Int) (s : GSt) (c : Int × Int) : (jStep k t s c).1.map (·.1) = s.1.map (·.1) ∧ (jStep k t s c).2.1.map (·.1) = s.2.1.map (·.1) ∧ (jStep k t s c).2.2.length ≤ s.2.2.length + 1 := by
  unfold jStep
  split
  · exact ⟨rfl, rfl, Nat.le_succ _⟩
  · refine ⟨rel_keys _ _, rel_keys _ _, ?_⟩
    simp
theorem jFold_keys (k t : Int) : ∀ (cs : List (Int × Int)) (s : GSt), (cs.foldl (jStep k t) s).1.map (·.1) = s.1.map (·.1) ∧ (cs.foldl (jStep k t) s).2.1.map (·.1) = s.2.1.map (·.1) ∧ (cs.foldl (jStep k t) s).2.2.length ≤ s.2.2.length + cs.length
  | [], s => ⟨rfl, rfl, Nat.le_refl _⟩
  | c :: cs, s => by
    obtain ⟨a1, a2, a3⟩ := jFold_keys k t cs (jStep k t s c)
    obtain ⟨b1, b2, b3⟩ := jStep_keys k t s c
    rw [List.foldl_cons, List.length_cons]
    exact ⟨a1.trans b1, a2.trans b2, by omega⟩
theorem cln_fr (k : Int) (bs ss : List Int) (live : List (Int × Int)) (n : Int) (J : List (Int × (Int × Int))) {s5 s6 : Slot} (h5 : clnS s5 = true) (h6 : clnS s6 = true) : clnR [.val (ruleD k bs ss), .val (cells live), .val (.int n), .emp, .own (.lst (J.map jD)), s5, s6] = true := by
  show (cln (ruleD k bs ss) && (cln (cells live) && (true && (true && (clns (J.map jD) && (clnS s5 && (clnS s6 && true))))))) = true
  rw [cln_rule, cln_cells, clns_jD, h5, h6]
  rfl
theorem join_turn (k : Int) (bs ss : List Int) (live : List (Int × Int)) (n t : Int) {s : GSt} (hn0 : (s.1.map (·.1)).Nodup) (hl0 : s.1.length ≤ 440) (hn : (s.2.1.map (·.1)).Nodup) (hl : s.2.1.length ≤ 440) (hJ : s.2.2.length < 15000) (c : Int × Int) {s6 : Slot} : ∃ ρ2 ρ3, ρ2[3]? = some .emp ∧ (∀ p, gSet 6 (cellP c) ([Slot.val (ruleD k bs ss), .val (cells live), .val (.int n), .emp, .own (.lst (s.2.2.map jD)), .val (.int t), s6].set 3 (.adr p)) = some (ρ2.set 3 (.adr p))) ∧ m_parts_1 (gsD false k bs ss s.1 s.2.1) ρ2 = .nx (gsD false k bs ss (jStep k t s c).1 (jStep k t s c).2.1) ρ3 ∧ ∃ s6', clnS s6' = true ∧ ρ3 = [.val (ruleD k bs ss), .val (cells live), .val (.int n), .emp, .own (.lst ((jStep k t s c).2.2.map jD)), .val (.int t), s6'] := by
  have em := merged_is k bs ss hn0 hl0 hn hl c
  refine ⟨[.val (ruleD k bs ss), .val (cells live), .val (.int n), .emp, .own (.lst (s.2.2.map jD)), .val (.int t), .val (cellP c)], [.val (ruleD k bs ss), .val (cells live), .val (.int n), .emp, .own (.lst ((jStep k t s c).2.2.map jD)), .val (.int t), .val (cellP c)], rfl, fun p => rfl, ?_, .val (cellP c), rfl, rfl⟩
  unfold m_parts_1
  have hI : isIns "Groups" "merged" (gsD false k bs ss s.1 s.2.1) = true := rfl
  by_cases h : (nearN k s.2.1 c).length < 2
  · rw [if_pos h] at em
    have e : jStep k t s c = s := if_pos h
    rw [e]
    refine (rSeq_nx (gd' := gsD false k bs ss s.1 s.2.1) ?_).trans rfl
    exact (rMeth_of (i := 3) (ρ := [.val (ruleD k bs ss), .val (cells live), .val (.int n), .emp, .own (.lst (s.2.2.map jD)), .val (.int t), .val (cellP c)]) (ρ1 := [.val (ruleD k bs ss), .val (cells live), .val (.int n), .val (gsD false k bs ss s.1 s.2.1), .own (.lst (s.2.2.map jD)), .val (.int t), .val (cellP c)]) (ds := [cellP c]) rfl (cln_fr k bs ss live n s.2.2 rfl rfl) rfl hI em).trans rfl
  · rw [if_neg h] at em
    have e : jStep k t s c = (s.1.map (rel (nearN k s.2.1 c)), s.2.1.map (rel (nearN k s.2.1 c)), s.2.2 ++ [(t, c)]) := if_neg h
    rw [e]
    refine (rSeq_nx (gd' := gsD false k bs ss (s.1.map (rel (nearN k s.2.1 c))) (s.2.1.map (rel (nearN k s.2.1 c)))) ?_).trans rfl
    refine (rMeth_of (i := 3) (ρ := [.val (ruleD k bs ss), .val (cells live), .val (.int n), .emp, .own (.lst (s.2.2.map jD)), .val (.int t), .val (cellP c)]) (ρ1 := [.val (ruleD k bs ss), .val (cells live), .val (.int n), .val (gsD false k bs ss s.1 s.2.1), .own (.lst (s.2.2.map jD)), .val (.int t), .val (cellP c)]) (ds := [cellP c]) rfl (cln_fr k bs ss live n s.2.2 rfl rfl) rfl hI em).trans ?_
    have hz : (s.2.2.map jD).length < sizeLine := by rw [List.length_map]; exact szBl (by omega)
    have ea : ∀ p, xAppend 4 (xOpL dTup (xCons (xVar 5) (xCons (xVar 6) xNil))) ([Slot.val (ruleD k bs ss), .val (cells live), .val (.int n), .emp, .own (.lst (s.2.2.map jD)), .val (.int t), .val (cellP c)].set 3 (.adr p)) = .nx ([Slot.val (ruleD k bs ss), .val (cells live), .val (.int n), .emp, .own (.lst ((s.2.2 ++ [(t, c)]).map jD)), .val (.int t), .val (cellP c)].set 3 (.adr p)) := fun p => by
      rw [List.map_append]
      simp! [List.set_cons_succ, List.set_cons_zero, hz]
      rfl
    exact (rSeq_nx (rOld_of rfl ea)).trans rfl

theorem crT_nodup (ops : LT) : ((crT ops).2.map (·.1)).Nodup := by
  suffices h : ∀ (ops : LT) (s : LT × List ((Int × Int) × Bool)), (s.2.map (·.1)).Nodup → ((ops.foldl stC s).2.map (·.1)).Nodup from h ops ([], []) List.nodup_nil
  intro ops
  induction ops with
  | nil => exact fun s h => h
  | cons o ops ih =>
    intro s h
    refine ih _ ?_
    unfold stC
    dsimp only
    split
    · exact h
    · exact ptA_nodup _ _ _ h
theorem crowdL_nodup (k : Int) (T : LT) : (crowdL k T).Nodup := (sortE_perm _).nodup_iff.mpr (crT_nodup _)
theorem crowdL_in (k : Int) (T : LT) {c : Int × Int} (h : c ∈ crowdL k T) : c ∈ imgs9 k (keysL T) := by
  unfold crowdL at h
  rw [mem_sortE, crT_snd] at h
  obtain ⟨v, h, _⟩ := h
  unfold opsG at h
  obtain ⟨e, he, h⟩ := List.mem_flatMap.mp h
  obtain ⟨d, hd, q⟩ := List.mem_map.mp h
  cases q
  unfold imgs9
  refine List.mem_flatMap.mpr ⟨e.1, ?_, List.mem_map_of_mem hd⟩
  unfold keysL
  rw [mem_sortE]
  exact List.mem_map_of_mem (f := (·.1)) he
theorem crowd_len {k : Int} {T : LT} {M : Nat} (h : Cov M (imgs9 k (keysL T))) : (crowdL k T).length ≤ M := (h.sub fun _ hp => crowdL_in k T hp).len (crowdL_nodup k T)
theorem lok_gs (k : Int) (bs ss : List Int) (T0 T : LT) : lokI (gsD false k bs ss T0 T) = gsD true k bs ss T0 T := rfl
/-- a turn of the frame -/
theorem frame_turn {k : Int} (hk : Kind k) {bs : List Int} (hq : 0 ∉ bs) (ss : List Int) (live : List (Int × Int)) (n : Int) (t : Int) {s : GSt} (hn0 : (s.1.map (·.1)).Nodup) (hl0 : s.1.length ≤ 440) (hn : (s.2.1.map (·.1)).Nodup) (hl : s.2.1.length ≤ 440) {M : Nat} (hM : Cov M (imgs9 k (keysL s.2.1))) (hM2 : M ≤ 2400) (hJ : s.2.2.length + M < 15000) {s5 s6 : Slot} (h6 : clnS s6 = true) : ∃ ρ2 ρ3, ρ2[3]? = some .emp ∧ (∀ p, gSet 5 (.int t) ([Slot.val (ruleD k bs ss), .val (cells live), .val (.int n), .emp, .own (.lst (s.2.2.map jD)), s5, s6].set 3 (.adr p)) = some (ρ2.set 3 (.adr p))) ∧ m_parts_2 (gsD false k bs ss s.1 s.2.1) ρ2 = .nx (gsD false k bs ss (gTurn k bs ss s t).1 (gTurn k bs ss s t).2.1) ρ3 ∧ ∃ s5' s6', clnS s5' = true ∧ clnS s6' = true ∧ ρ3 = [.val (ruleD k bs ss), .val (cells live), .val (.int n), .emp, .own (.lst ((gTurn k bs ss s t).2.2.map jD)), s5', s6'] := by
  have ec := crowded_is (k := k) bs ss s.1 s.2.1 hn hl
  have hc := crowd_len hM
  have hI : isIns "Groups" "crowded" (gsD true k bs ss s.1 s.2.1) = true := rfl
  have eI : xMeth "Groups" "crowded" f_Groups_crowded (xVar 3) xNil [.val (ruleD k bs ss), .val (cells live), .val (.int n), .val (gsD true k bs ss s.1 s.2.1), .own (.lst (s.2.2.map jD)), .val (.int t), s6] = .ok (.lst ((crowdL k s.2.1).map cellP)) [.val (ruleD k bs ss), .val (cells live), .val (.int n), .val (gsD true k bs ss s.1 s.2.1), .own (.lst (s.2.2.map jD)), .val (.int t), s6] := by
    simp! [meth1_of hI, zjm, ec, cells]
  have e1 := rItLk_of (i := 3) (gd := gsD false k bs ss s.1 s.2.1) (ρ := [.val (ruleD k bs ss), .val (cells live), .val (.int n), .emp, .own (.lst (s.2.2.map jD)), .val (.int t), s6]) (ρ1 := [.val (ruleD k bs ss), .val (cells live), .val (.int n), .val (gsD true k bs ss s.1 s.2.1), .own (.lst (s.2.2.map jD)), .val (.int t), s6]) eI (cln_fr k bs ss live n s.2.2 rfl h6) (clns_cells _)
  obtain ⟨g1, ρ1, r1, i1⟩ := rRun_inv (i := 3) (g := gSet 6) (tb := m_parts_1) (fun m gd ρ => gd = gsD false k bs ss (((crowdL k s.2.1).take m).foldl (jStep k t) s).1 (((crowdL k s.2.1).take m).foldl (jStep k t) s).2.1 ∧ ∃ s6', clnS s6' = true ∧ ρ = [.val (ruleD k bs ss), .val (cells live), .val (.int n), .emp, .own (.lst ((((crowdL k s.2.1).take m).foldl (jStep k t) s).2.2.map jD)), .val (.int t), s6']) ((crowdL k s.2.1).map cellP) 0 (gsD false k bs ss s.1 s.2.1) [.val (ruleD k bs ss), .val (cells live), .val (.int n), .emp, .own (.lst (s.2.2.map jD)), .val (.int t), s6] ⟨rfl, _, h6, rfl⟩ (fun m x gd ρ hm hI => by
    rw [Nat.zero_add] at hI ⊢
    obtain ⟨rfl, s6', _, rfl⟩ := hI
    rw [List.getElem?_map] at hm
    obtain ⟨c, he, rfl⟩ := Option.map_eq_some_iff.mp hm
    obtain ⟨f1, f2, f3⟩ := jFold_keys k t ((crowdL k s.2.1).take m) s
    have l1 := congrArg List.length f1
    have l2 := congrArg List.length f2
    rw [List.length_map, List.length_map] at l1 l2
    rw [take_snoc he, List.foldl_append]
    have lt : ((crowdL k s.2.1).take m).length ≤ M := by rw [List.length_take]; omega
    obtain ⟨ρ2, ρ3, a1, a2, a3, a4⟩ := join_turn k bs ss live n t (s := ((crowdL k s.2.1).take m).foldl (jStep k t) s) (by rw [f1]; exact hn0) (by omega) (by rw [f2]; exact hn) (by omega) (by omega) c (s6 := s6')
    exact ⟨ρ2, _, ρ3, a1, a2, a3, rfl, a4⟩)
  rw [Nat.zero_add, List.length_map, List.take_length] at i1
  obtain ⟨rfl, s6', h6', rfl⟩ := i1
  obtain ⟨f1, f2, f3⟩ := jFold_keys k t (crowdL k s.2.1) s
  have l2 := congrArg List.length f2
  rw [List.length_map, List.length_map] at l2
  have hkk : keysL ((crowdL k s.2.1).foldl (jStep k t) s).2.1 = keysL s.2.1 := by unfold keysL; rw [f2]
  have kl : (keysL s.2.1).length = s.2.1.length := by unfold keysL; rw [sortE_length, List.length_map]
  have eg := go_on_is hk hq ss ((crowdL k s.2.1).foldl (jStep k t) s).1 ((crowdL k s.2.1).foldl (jStep k t) s).2.1 (by unfold manyS; omega) (by rw [hkk]; exact ⟨by omega, let ⟨B, b1, b2⟩ := hM; ⟨B, by omega, b2⟩⟩) (by rw [hkk]; have := nextP_len k bs ss (keysL s.2.1); omega)
  have hg : gTurn k bs ss s t = (((crowdL k s.2.1).foldl (jStep k t) s).1, goT k bs ss ((crowdL k s.2.1).foldl (jStep k t) s).2.1, ((crowdL k s.2.1).foldl (jStep k t) s).2.2) := rfl
  rw [hg]
  clear hg
  have r1 := (rFor_of (i := 3) (tb := m_parts_1) e1).trans r1
  generalize (crowdL k s.2.1).foldl (jStep k t) s = u at eg r1 ⊢
  dsimp only
  refine ⟨[.val (ruleD k bs ss), .val (cells live), .val (.int n), .emp, .own (.lst (s.2.2.map jD)), .val (.int t), s6], [.val (ruleD k bs ss), .val (cells live), .val (.int n), .emp, .own (.lst (u.2.2.map jD)), .val (.int t), s6'], rfl, fun p => rfl, ?_, _, _, rfl, h6', rfl⟩
  have hI2 : isIns "Groups" "go_on" (gsD false k bs ss u.1 u.2.1) = true := rfl
  have e3 := rMeth_of (i := 3) (gd := gsD false k bs ss u.1 u.2.1) (c := "Groups") (m := "go_on") (g := f_Groups_go_on) (k := fun _ gd ρ => .nx gd ρ) (ta := xNil) (ρ := [.val (ruleD k bs ss), .val (cells live), .val (.int n), .emp, .own (.lst (u.2.2.map jD)), .val (.int t), s6']) (ρ1 := [.val (ruleD k bs ss), .val (cells live), .val (.int n), .val (gsD false k bs ss u.1 u.2.1), .own (.lst (u.2.2.map jD)), .val (.int t), s6']) (ds := []) rfl (cln_fr k bs ss live n _ rfl h6') rfl hI2 eg
  unfold m_parts_2
  exact (rSeq_nx r1).trans ((rSeq_nx e3).trans rfl)

def gRunN (k : Int) (bs ss : List Int) (live : List (Int × Int)) : Nat → GSt
  | 0 => (numT live, numT live, [])
  | t + 1 => gTurn k bs ss (gRunN k bs ss live t) (t : Int)
theorem gRun_succ (k : Int) (bs ss : List Int) (live : List (Int × Int)) (t : Nat) : gRunN k bs ss live (t + 1) = gTurn k bs ss (gRunN k bs ss live t) (t : Int) := rfl
theorem goT_keys (k : Int) (bs ss : List Int) (T : LT) : (goT k bs ss T).map (·.1) = nextP k bs ss (keysL T) := by
  unfold goT
  rw [List.map_map]
  exact List.map_id _
theorem after_succ (k : Int) (bs ss : List Int) (live : List (Int × Int)) (t : Nat) : afterP k bs ss live (t + 1) = nextP k bs ss (afterP k bs ss live t) := rfl
theorem gTurn_keys (k : Int) (bs ss : List Int) (s : GSt) (t : Int) : (gTurn k bs ss s t).1.map (·.1) = s.1.map (·.1) ∧ (gTurn k bs ss s t).2.1.map (·.1) = nextP k bs ss (keysL s.2.1) := by
  obtain ⟨f1, f2, f3⟩ := jFold_keys k t (crowdL k s.2.1) s
  have hkk : keysL ((crowdL k s.2.1).foldl (jStep k t) s).2.1 = keysL s.2.1 := by unfold keysL; rw [f2]
  unfold gTurn
  generalize (crowdL k s.2.1).foldl (jStep k t) s = u at f1 f2 hkk ⊢
  refine ⟨f1, ?_⟩
  show (goT k bs ss u.2.1).map (·.1) = _
  rw [goT_keys, hkk]
theorem gRun_keys {k : Int} {bs : List Int} (ss : List Int) {live : List (Int × Int)} (hP : Pic live) (t : Nat) : (gRunN k bs ss live t).1.map (·.1) = live ∧ (gRunN k bs ss live t).2.1.map (·.1) = afterP k bs ss live t ∧ keysL (gRunN k bs ss live t).2.1 = afterP k bs ss live t := by
  induction t with
  | zero => exact ⟨numT_fst live, numT_fst live, by show sortE ((numT live).map (·.1)) = live; rw [numT_fst]; exact hP.sort⟩
  | succ t ih =>
    obtain ⟨a1, a2, a3⟩ := ih
    have hp := (afterP_pic (k := k) (bs := bs) (ss := ss) hP (t + 1)).sort
    rw [gRun_succ]
    rw [after_succ] at hp ⊢
    generalize gRunN k bs ss live t = s at a1 a2 a3 ⊢
    obtain ⟨f1, f2⟩ := gTurn_keys k bs ss s (t : Int)
    generalize gTurn k bs ss s (t : Int) = u at f1 f2 ⊢
    have e : u.2.1.map (·.1) = nextP k bs ss (afterP k bs ss live t) := by rw [f2, a3]
    refine ⟨f1.trans a1, e, ?_⟩
    unfold keysL
    rw [e, hp]
theorem gRun_joins {k : Int} {bs : List Int} (ss : List Int) {live : List (Int × Int)} (hP : Pic live) {M : Nat} : ∀ t, (∀ i, i < t → Cov M (imgs9 k (afterP k bs ss live i))) → (gRunN k bs ss live t).2.2.length ≤ t * M
  | 0, _ => by show 0 ≤ _; omega
  | t + 1, h => by
    have ih := gRun_joins ss hP t fun i hi => h i (by omega)
    obtain ⟨_, _, a3⟩ := gRun_keys (k := k) (bs := bs) ss hP t
    rw [gRun_succ]
    have hc := h t (by omega)
    rw [← a3] at hc
    generalize gRunN k bs ss live t = s at ih hc ⊢
    unfold gTurn
    obtain ⟨f1, f2, f3⟩ := jFold_keys k (t : Int) (crowdL k s.2.1) s
    have := crowd_len hc
    show ((crowdL k s.2.1).foldl (jStep k (t : Int)) s).2.2.length ≤ _
    rw [Nat.add_mul]
    omega
theorem cln_parts (L : List (List (Int × Int))) : clns (L.map cells) = true := by
  induction L with
  | nil => rfl
  | cons p L ih => rw [List.map_cons]; unfold clns; rw [ih, cln_cells]; rfl
theorem parts_of {k : Int} (hk : Kind k) {bs : List Int} (hq : 0 ∉ bs) (ss : List Int) {live : List (Int × Int)} (hP : Pic live) (hl : live.length ≤ 440) (N : Nat) {n : Int} (eN : (N : Int) = n) (hN : N ≤ 100) {M : Nat} (hM : ∀ t, t < N → Cov M (imgs9 k (afterP k bs ss live t)) ∧ (afterP k bs ss live t).length ≤ 440) (hM2 : M ≤ 2400) (hJ : N * M ≤ 12000) :
    f_parts [ruleD k bs ss, cells live, .int n] = .ok (.tup [.lst ((partsL (gRunN k bs ss live N).1).map cells), .lst ((gRunN k bs ss live N).2.2.map jD)]) [] := by
  have e0 : rOld 3 (xSetO 4 (xOpL dLst xNil)) (gsD false k bs ss (numT live) (numT live)) [.val (ruleD k bs ss), .val (cells live), .val (.int n), .emp, .emp, .emp, .emp] = .nx (gsD false k bs ss (numT live) (numT live)) [.val (ruleD k bs ss), .val (cells live), .val (.int n), .emp, .own (.lst (([] : List (Int × (Int × Int))).map jD)), .emp, .emp] := rOld_of rfl fun p => rfl
  have hr : inR n = true := by
    rw [← eN]
    exact (inR_iff _).mpr ⟨by omega, by omega⟩
  have e1 := rItR1_of (i := 3) (te := xVar 2) (gd := gsD false k bs ss (numT live) (numT live)) (ρ := [.val (ruleD k bs ss), .val (cells live), .val (.int n), .emp, .own (.lst (([] : List (Int × (Int × Int))).map jD)), .emp, .emp]) (rfl : xVar 2 _ = .ok (.int n) [.val (ruleD k bs ss), .val (cells live), .val (.int n), .val (gsD false k bs ss (numT live) (numT live)), .own (.lst (([] : List (Int × (Int × Int))).map jD)), .emp, .emp]) (cln_fr k bs ss live n [] rfl rfl) hr
  obtain ⟨g1, ρ1, r1, i1⟩ := rRun_inv (i := 3) (g := gSet 5) (tb := m_parts_2) (fun m gd ρ => gd = gsD false k bs ss (gRunN k bs ss live m).1 (gRunN k bs ss live m).2.1 ∧ ∃ s5 s6, clnS s5 = true ∧ clnS s6 = true ∧ ρ = [.val (ruleD k bs ss), .val (cells live), .val (.int n), .emp, .own (.lst ((gRunN k bs ss live m).2.2.map jD)), s5, s6]) (rangeD 0 n.toNat) 0 (gsD false k bs ss (numT live) (numT live)) [.val (ruleD k bs ss), .val (cells live), .val (.int n), .emp, .own (.lst (([] : List (Int × (Int × Int))).map jD)), .emp, .emp] ⟨rfl, _, _, rfl, rfl, rfl⟩ (fun m x gd ρ hm hI => by
    rw [Nat.zero_add] at hI ⊢
    obtain ⟨rfl, s5, s6, h5, h6, rfl⟩ := hI
    obtain ⟨rfl, hmN⟩ : x = .int (m : Int) ∧ m < N := by
      have := rangeD_get hm
      rw [← eN] at this
      exact ⟨by rw [this.2, Int.zero_add], by omega⟩
    obtain ⟨a1, a2, a3⟩ := gRun_keys (k := k) (bs := bs) ss hP m
    obtain ⟨c1, c2⟩ := hM m hmN
    have jl := gRun_joins (k := k) (bs := bs) ss hP (M := M) m fun i hi => (hM i (by omega)).1
    have hmM : m * M ≤ N * M := Nat.mul_le_mul (by omega) (Nat.le_refl _)
    have l1 := congrArg List.length a1
    have l2 := congrArg List.length a2
    rw [List.length_map] at l1 l2
    obtain ⟨ρ2, ρ3, q1, q2, q3, q4⟩ := frame_turn hk hq ss live n (m : Int) (s := gRunN k bs ss live m) (by rw [a1]; exact hP.nodup) (by omega) (by rw [a2]; exact (afterP_pic hP m).nodup) (by omega) (M := M) (by rw [a3]; exact c1) hM2 (by omega) (s5 := s5) (s6 := s6) h6
    exact ⟨ρ2, _, ρ3, q1, q2, q3, rfl, q4⟩)
  have hlen : 0 + (rangeD 0 n.toNat).length = N := by
    rw [rangeD_len, ← eN]
    omega
  rw [hlen] at i1
  obtain ⟨rfl, s5, s6, h5, h6, rfl⟩ := i1
  obtain ⟨a1, a2, a3⟩ := gRun_keys (k := k) (bs := bs) ss hP N
  have l1 := congrArg List.length a1
  rw [List.length_map] at l1
  have r1 := (rFor_of (i := 3) (tb := m_parts_2) e1).trans r1
  generalize gRunN k bs ss live N = u at r1 l1 ⊢
  have ep := parts_is false k bs ss u.1 u.2.1 (by omega)
  have hI : isIns "Groups" "parts" (gsD false k bs ss u.1 u.2.1) = true := rfl
  have eR : xOpL dTup (xCons (xMeth "Groups" "parts" f_Groups_parts (xVar 3) xNil) (xCons (xTake 4) xNil)) [.val (ruleD k bs ss), .val (cells live), .val (.int n), .val (gsD false k bs ss u.1 u.2.1), .own (.lst (u.2.2.map jD)), s5, s6] = .ok (.tup [.lst ((partsL u.1).map cells), .lst (u.2.2.map jD)]) [.val (ruleD k bs ss), .val (cells live), .val (.int n), .val (gsD false k bs ss u.1 u.2.1), .emp, s5, s6] := by
    simp! [meth1_of hI, zjm, ep]
  have e3 : rRet 3 (xOpL dTup (xCons (xMeth "Groups" "parts" f_Groups_parts (xVar 3) xNil) (xCons (xTake 4) xNil))) (gsD false k bs ss u.1 u.2.1) [.val (ruleD k bs ss), .val (cells live), .val (.int n), .emp, .own (.lst (u.2.2.map jD)), s5, s6] = .ret (.tup [.lst ((partsL u.1).map cells), .lst (u.2.2.map jD)]) (gsD false k bs ss u.1 u.2.1) [.val (ruleD k bs ss), .val (cells live), .val (.int n), .emp, .emp, s5, s6] :=
    rRet_of (i := 3) (ρ := [.val (ruleD k bs ss), .val (cells live), .val (.int n), .emp, .own (.lst (u.2.2.map jD)), s5, s6]) eR (by
      show (cln (ruleD k bs ss) && (cln (cells live) && (true && (true && (true && (clnS s5 && (clnS s6 && true))))))) = true
      rw [cln_rule, cln_cells, h5, h6]
      rfl) (by
      simp only [cln, clns, cln_parts, clns_jD, Bool.and_true])
  have e4 : m_parts_3 (gsD false k bs ss (numT live) (numT live)) [.val (ruleD k bs ss), .val (cells live), .val (.int n), .emp, .emp, .emp, .emp] = .ret (.tup [.lst ((partsL u.1).map cells), .lst (u.2.2.map jD)]) (gsD false k bs ss u.1 u.2.1) [.val (ruleD k bs ss), .val (cells live), .val (.int n), .emp, .emp, s5, s6] := by
    unfold m_parts_3
    exact (rSeq_nx e0).trans ((rSeq_nx r1).trans (rSeq_ret e3))
  have ei := init_is hk bs ss hP.nodup hl
  have e5 : xRegM 3 "Groups" f_Groups___init (xCons (xVar 0) (xCons (xVar 1) xNil)) m_parts_3 [.val (ruleD k bs ss), .val (cells live), .val (.int n), .emp, .emp, .emp, .emp] = .ret (.tup [.lst ((partsL u.1).map cells), .lst (u.2.2.map jD)]) [.val (ruleD k bs ss), .val (cells live), .val (.int n), .emp, .emp, s5, s6] := by
    show make1R 3 "Groups" f_Groups___init m_parts_3 [ruleD k bs ss, cells live] [.val (ruleD k bs ss), .val (cells live), .val (.int n), .emp, .emp, .emp, .emp] = _
    unfold make1R
    rw [if_pos ⟨rfl, (by simp : 3 < 7)⟩, ei]
    unfold make2
    show (match m_parts_3 (gsD false k bs ss (numT live) (numT live)) [.val (ruleD k bs ss), .val (cells live), .val (.int n), .emp, .emp, .emp, .emp] with
      | .ret d _ ρ' => Fl.ret d ρ'
      | _ => .bad) = _
    rw [e4]
  have eq : f_ask_quiet [ruleD k bs ss] = .ok .non [] := quiet_is k hq ss
  unfold f_parts b_parts
  simp! [eq, e5]

/-- a cell that hangs on one group at most -/
def One (k : Int) (T : LT) (c : Int × Int) : Prop := ∀ w v, w ∈ nearN k T c → v ∈ nearN k T c → w = v
def Unc (k : Int) (T : LT) : Prop := ∀ c, One k T c
def relI (S : List Int) (w : Int) : Int := if w ∈ S then S.headD 0 else w
theorem rel_snd (S : List Int) (e : (Int × Int) × Int) : (rel S e).2 = relI S e.2 := by
  unfold rel relI
  split <;> rfl
theorem lkA_rel (S : List Int) (T : LT) (c : Int × Int) : lkA (T.map (rel S)) c = (lkA T c).map (relI S) := by
  induction T with
  | nil => rfl
  | cons e T ih =>
    obtain ⟨b, w⟩ := e
    rw [List.map_cons, show rel S (b, w) = (b, relI S w) from Prod.ext (rel_fst S (b, w)) (rel_snd S (b, w)), lkA_cons, lkA_cons, ih]
    by_cases h : b = c
    · rw [if_pos h, if_pos h]; rfl
    · rw [if_neg h, if_neg h]
theorem near_rel {k : Int} {S : List Int} {T : LT} {c : Int × Int} {v : Int} : v ∈ nearN k (T.map (rel S)) c ↔ ∃ w ∈ nearN k T c, v = relI S w := by
  rw [mem_nearN]
  constructor
  · rintro ⟨d, hd, h⟩
    rw [lkA_rel] at h
    obtain ⟨w, hw, rfl⟩ := Option.map_eq_some_iff.mp h
    exact ⟨w, mem_nearN.mpr ⟨d, hd, hw⟩, rfl⟩
  · rintro ⟨w, hw, rfl⟩
    obtain ⟨d, hd, h⟩ := mem_nearN.mp hw
    exact ⟨d, hd, by rw [lkA_rel, h]; rfl⟩
theorem one_rel {k : Int} {S : List Int} {T : LT} {c : Int × Int} (h : One k T c) : One k (T.map (rel S)) c := fun w v hw hv => by
  obtain ⟨a, ha, rfl⟩ := near_rel.mp hw
  obtain ⟨b, hb, rfl⟩ := near_rel.mp hv
  rw [h a b ha hb]
theorem one_made (k : Int) (T : LT) (c : Int × Int) : One k (T.map (rel (nearN k T c))) c := fun w v hw hv => by
  obtain ⟨a, ha, rfl⟩ := near_rel.mp hw
  obtain ⟨b, hb, rfl⟩ := near_rel.mp hv
  unfold relI
  rw [if_pos ha, if_pos hb]
theorem near_pw (k : Int) (T : LT) (c : Int × Int) : (nearN k T c).Nodup := by
  unfold nearN sortI
  exact (isortB_perm _).nodup_iff.mpr (nodup_dd _)
theorem one_few {k : Int} {T : LT} {c : Int × Int} (h : (nearN k T c).length < 2) : One k T c := fun w v hw hv => by
  generalize nearN k T c = L at h hw hv
  match L, h with
  | [], _ => exact absurd hw List.not_mem_nil
  | [a], _ => rw [List.mem_singleton.mp hw, List.mem_singleton.mp hv]
  | _ :: _ :: _, h => exact absurd h (by simp)
/-- the one group -/
theorem one_head {k : Int} {T : LT} {c : Int × Int} (h : One k T c) {w : Int} (hw : w ∈ nearN k T c) : (nearN k T c).headD 0 = w := by
  generalize e : nearN k T c = L at hw
  cases L with
  | nil => exact absurd hw List.not_mem_nil
  | cons a L => exact h a w (by rw [e]; exact List.mem_cons_self) (by rw [e]; exact hw)
theorem keys_rel (S : List Int) (T : LT) : keysL (T.map (rel S)) = keysL T := by unfold keysL; rw [rel_keys]
theorem go_rel {k : Int} (hk : Kind k) {bs : List Int} (hq : 0 ∉ bs) (ss : List Int) (S : List Int) {T : LT} (h : Unc k T) : goT k bs ss (T.map (rel S)) = (goT k bs ss T).map (rel S) := by
  unfold goT
  rw [keys_rel, List.map_map]
  refine List.map_congr_left fun c hc => ?_
  have hne := near_ne hk hq ss T hc
  obtain ⟨w, hw⟩ := List.exists_mem_of_ne_nil _ hne
  have h1 := one_head (h c) hw
  have h2 := one_head (one_rel (S := S) (h c)) (near_rel.mpr ⟨w, hw, rfl⟩)
  show (c, (nearN k (T.map (rel S)) c).headD 0) = rel S (c, (nearN k T c).headD 0)
  rw [h2, h1]
  exact (show rel S (c, w) = (c, relI S w) from Prod.ext (rel_fst S (c, w)) (rel_snd S (c, w))).symm
def gIt (k : Int) (bs ss : List Int) (T : LT) : Nat → LT
  | 0 => T
  | n + 1 => goT k bs ss (gIt k bs ss T n)
theorem gIt_succ (k : Int) (bs ss : List Int) (T : LT) (n : Nat) : gIt k bs ss T (n + 1) = goT k bs ss (gIt k bs ss T n) := rfl
theorem gIt_rel {k : Int} (hk : Kind k) {bs : List Int} (hq : 0 ∉ bs) (ss : List Int) (S : List Int) {T : LT} (n : Nat) (h : ∀ i, i < n → Unc k (gIt k bs ss T i)) : gIt k bs ss (T.map (rel S)) n = (gIt k bs ss T n).map (rel S) := by
  induction n with
  | zero => rfl
  | succ n ih =>
    rw [gIt_succ, gIt_succ, ih fun i hi => h i (by omega), go_rel hk hq ss S (h n (by omega))]
/-- the living cells are what the starts come to -/
def Inv2 (k : Int) (bs ss : List Int) (n : Nat) (s : GSt) : Prop := s.2.1 = gIt k bs ss s.1 n ∧ ∀ i, i < n → Unc k (gIt k bs ss s.1 i)
theorem inv_rel {k : Int} (hk : Kind k) {bs : List Int} (hq : 0 ∉ bs) (ss : List Int) {n : Nat} {s : GSt} (h : Inv2 k bs ss n s) (S : List Int) (J : List (Int × (Int × Int))) : Inv2 k bs ss n (s.1.map (rel S), s.2.1.map (rel S), J) := by
  obtain ⟨h1, h2⟩ := h
  refine ⟨?_, fun i hi => ?_⟩
  · show s.2.1.map (rel S) = _
    rw [gIt_rel hk hq ss S n h2, ← h1]
  · show Unc k (gIt k bs ss (s.1.map (rel S)) i)
    rw [gIt_rel hk hq ss S i fun j hj => h2 j (by omega)]
    exact fun c => one_rel (h2 i hi c)
theorem inv_step {k : Int} (hk : Kind k) {bs : List Int} (hq : 0 ∉ bs) (ss : List Int) {n : Nat} (t : Int) {s : GSt} (h : Inv2 k bs ss n s) (c : Int × Int) : Inv2 k bs ss n (jStep k t s c) ∧ One k (jStep k t s c).2.1 c ∧ ∀ d, One k s.2.1 d → One k (jStep k t s c).2.1 d := by
  unfold jStep
  by_cases hc : (nearN k s.2.1 c).length < 2
  · rw [if_pos hc]
    exact ⟨h, one_few hc, fun d h => h⟩
  · rw [if_neg hc]
    exact ⟨inv_rel hk hq ss h _ _, one_made k s.2.1 c, fun d h => one_rel h⟩
theorem inv_fold {k : Int} (hk : Kind k) {bs : List Int} (hq : 0 ∉ bs) (ss : List Int) {n : Nat} (t : Int) : ∀ (cs : List (Int × Int)) (s : GSt), Inv2 k bs ss n s → Inv2 k bs ss n (cs.foldl (jStep k t) s) ∧ (∀ c ∈ cs, One k (cs.foldl (jStep k t) s).2.1 c) ∧ ∀ d, One k s.2.1 d → One k (cs.foldl (jStep k t) s).2.1 d
  | [], s, h => ⟨h, fun c hc => absurd hc List.not_mem_nil, fun d h => h⟩
  | c :: cs, s, h => by
    obtain ⟨a1, a2, a3⟩ := inv_step hk hq ss t h c
    obtain ⟨b1, b2, b3⟩ := inv_fold hk hq ss t cs _ a1
    refine ⟨b1, fun d hd => ?_, fun d hd => b3 d (a3 d hd)⟩
    rcases List.mem_cons.mp hd with rfl | hd
    · exact b3 _ a2
    · exact b2 d hd
theorem lkA_in {T : LT} {c : Int × Int} {w : Int} (h : lkA T c = some w) : (c, w) ∈ T := by
  induction T with
  | nil => cases h
  | cons e T ih =>
    obtain ⟨b, v⟩ := e
    rw [lkA_cons] at h
    by_cases hb : b = c
    · rw [if_pos hb] at h
      cases h
      rw [hb]
      exact List.mem_cons_self
    · rw [if_neg hb] at h
      exact List.mem_cons_of_mem _ (ih h)
/-- a cell that is not crowded sees one group -/
theorem one_of {k : Int} {T : LT} {c : Int × Int} (h : c ∉ crowdL k T) : One k T c := fun w v hw hv => by
  have mem : ∀ w, w ∈ nearN k T c → (c, w) ∈ opsG k T := fun w hw => by
    obtain ⟨d, hd, e⟩ := mem_nearN.mp hw
    unfold opsG
    exact List.mem_flatMap.mpr ⟨(sh d c, w), lkA_in e, List.mem_map.mpr ⟨(-d.1, -d.2), n9_neg hd, by rw [sh_neg]⟩⟩
  have key : ∀ w, w ∈ nearN k T c → lkA (opsG k T) c = some w := fun w hw => by
    refine Classical.byContradiction fun z => h ?_
    unfold crowdL
    rw [mem_sortE, crT_snd]
    exact ⟨w, mem w hw, z⟩
  have := (key w hw).symm.trans (key v hv)
  exact Option.some.inj this
theorem inv_turn {k : Int} (hk : Kind k) {bs : List Int} (hq : 0 ∉ bs) (ss : List Int) {n : Nat} (t : Int) {s : GSt} (h : Inv2 k bs ss n s) : Inv2 k bs ss (n + 1) (gTurn k bs ss s t) := by
  obtain ⟨a1, a2, a3⟩ := inv_fold hk hq ss t (crowdL k s.2.1) s h
  unfold gTurn
  generalize (crowdL k s.2.1).foldl (jStep k t) s = u at a1 a2 a3
  have hu : Unc k u.2.1 := fun c => by
    by_cases hc : c ∈ crowdL k s.2.1
    · exact a2 c hc
    · exact a3 c (one_of hc)
  obtain ⟨b1, b2⟩ := a1
  refine ⟨by show goT k bs ss u.2.1 = goT k bs ss (gIt k bs ss u.1 n); rw [b1], fun i hi => ?_⟩
  show Unc k (gIt k bs ss u.1 i)
  by_cases he : i = n
  · rw [he, ← b1]; exact hu
  · exact b2 i (by omega)
theorem inv_run {k : Int} (hk : Kind k) {bs : List Int} (hq : 0 ∉ bs) (ss : List Int) (live : List (Int × Int)) (n : Nat) : Inv2 k bs ss n (gRunN k bs ss live n) := by
  induction n with
  | zero => exact ⟨rfl, fun i hi => absurd hi (Nat.not_lt_zero i)⟩
  | succ n ih =>
    rw [gRun_succ]
    exact inv_turn hk hq ss (n : Int) ih

/-- the cells of a number -/
def cellsW (T : LT) (w : Int) : List (Int × Int) := (keysL T).filter fun c => decide (labT T c = w)
theorem mem_cellsW {T : LT} {w : Int} {c : Int × Int} : c ∈ cellsW T w ↔ lkA T c = some w := by
  unfold cellsW labT
  rw [List.mem_filter, mem_keysL, decide_eq_true_eq]
  constructor
  · rintro ⟨h1, h2⟩
    obtain ⟨v, hv⟩ := Option.isSome_iff_exists.mp h1
    rw [hv] at h2 ⊢
    exact congrArg some h2
  · intro h
    rw [h]
    exact ⟨rfl, rfl⟩
theorem keysL_pic {T : LT} (hn : (T.map (·.1)).Nodup) : Pic (keysL T) := pic_of hn
theorem cellsW_pic {T : LT} (hn : (T.map (·.1)).Nodup) (w : Int) : Pic (cellsW T w) := (keysL_pic hn).sub List.filter_sublist
theorem lkA_mapf (f : Int × Int → Int) (l : List (Int × Int)) (c : Int × Int) : lkA (l.map fun c => (c, f c)) c = if c ∈ l then some (f c) else none := by
  induction l with
  | nil => rfl
  | cons a l ih =>
    rw [List.map_cons, lkA_cons, ih]
    by_cases h : a = c
    · subst h
      rw [if_pos rfl, if_pos List.mem_cons_self]
    · rw [if_neg h]
      by_cases h2 : c ∈ l
      · rw [if_pos h2, if_pos (List.mem_cons_of_mem _ h2)]
      · rw [if_neg h2, if_neg (fun z => (List.mem_cons.mp z).elim (fun z => h z.symm) h2)]
theorem lkA_go (k : Int) (bs ss : List Int) (T : LT) (c : Int × Int) : lkA (goT k bs ss T) c = if c ∈ nextP k bs ss (keysL T) then some ((nearN k T c).headD 0) else none := lkA_mapf _ _ c
theorem in9_near {k : Int} {T : LT} {c : Int × Int} {w : Int} (h : c ∈ imgs9 k (cellsW T w)) : w ∈ nearN k T c := by
  unfold imgs9 at h
  obtain ⟨p, hp, h⟩ := List.mem_flatMap.mp h
  obtain ⟨d, hd, e⟩ := List.mem_map.mp h
  exact near_of (mem_cellsW.mp hp) hd e
/-- what a cell sees when it sees one group alone -/
theorem cond_one {k : Int} (hk : Kind k) (bs ss : List Int) {T : LT} {c : Int × Int} {w : Int} (h : One k T c) (hw : w ∈ nearN k T c) : cond k bs ss (cellsW T w) c = cond k bs ss (keysL T) c := by
  have key : ∀ p, p ∈ keysL T → (c.1 - p.1, c.2 - p.2) ∈ n9 k → labT T p = w := fun p hp hd => by
    obtain ⟨v, hv⟩ := Option.isSome_iff_exists.mp (mem_keysL.mp hp)
    have hv2 : v ∈ nearN k T c := near_of hv hd (by
      unfold sh
      refine Prod.ext ?_ ?_
      · show p.1 + (c.1 - p.1) = c.1; omega
      · show p.2 + (c.2 - p.2) = c.2; omega)
    unfold labT
    rw [hv]
    exact h v w hv2 hw
  have e1 : livesP k (cellsW T w) c = livesP k (keysL T) c := by
    unfold livesP cellsW
    rw [List.countP_filter]
    refine List.countP_congr fun p hp => ?_
    rw [Bool.and_eq_true, decide_eq_true_eq, decide_eq_true_eq]
    exact ⟨fun z => z.1, fun z => ⟨z, key p hp ((n9_near hk _).mp z).1⟩⟩
  have e2 : c ∈ cellsW T w ↔ c ∈ keysL T := by
    unfold cellsW
    rw [List.mem_filter, decide_eq_true_eq]
    refine ⟨fun z => z.1, fun z => ⟨z, key c z ?_⟩⟩
    rw [Int.sub_self, Int.sub_self]
    exact nought9 k
  unfold G.cond
  rw [e1]
  by_cases hc : c ∈ keysL T
  · rw [if_pos hc, if_pos (e2.mpr hc)]
  · rw [if_neg hc, if_neg (fun z => hc (e2.mp z))]
/-- groups that do not touch live on by themselves -/
theorem split_next {k : Int} (hk : Kind k) {bs : List Int} (hq : 0 ∉ bs) (ss : List Int) {T : LT} (h : Unc k T) (w : Int) : cellsW (goT k bs ss T) w = nextP k bs ss (cellsW T w) := by
  refine nextP_ext hq ss (cellsW T w) (cellsW_pic (by rw [goT_keys]; exact (nextP_pic k bs ss _).nodup) w) fun c => ?_
  rw [mem_cellsW, lkA_go]
  constructor
  · intro z
    by_cases hc : c ∈ nextP k bs ss (keysL T)
    · rw [if_pos hc] at z
      have hne := near_ne hk hq ss T hc
      obtain ⟨v, hv⟩ := List.exists_mem_of_ne_nil _ hne
      have e := one_head (h c) hv
      rw [e] at z
      cases z
      rw [cond_one hk bs ss (h c) hv]
      exact (mem_nextP hq ss _ c).mp hc
    · rw [if_neg hc] at z
      cases z
  · intro z
    have hw := in9_near (next9 hk hq ss _ z)
    rw [cond_one hk bs ss (h c) hw] at z
    rw [if_pos ((mem_nextP hq ss _ c).mpr z), one_head (h c) hw]
/-- a permutation of a map is a map of a permutation -/
theorem perm_map {α β : Type} [DecidableEq α] (f : α → β) : ∀ (P : List β) (L : List α), P.Perm (L.map f) → ∃ W : List α, W.Perm L ∧ P = W.map f
  | [], L, h => by
    have := h.symm.length_eq
    rw [List.length_map] at this
    rw [List.length_eq_zero_iff.mp this]
    exact ⟨[], List.Perm.refl _, rfl⟩
  | p :: P, L, h => by
    obtain ⟨w, hw, e⟩ := List.mem_map.mp (h.mem_iff.mp List.mem_cons_self)
    subst e
    have pl := List.perm_cons_erase hw
    have h2 := h.trans (pl.map f)
    rw [List.map_cons] at h2
    obtain ⟨W, w1, w2⟩ := perm_map f P (L.erase w) (List.Perm.cons_inv h2)
    exact ⟨w :: W, (w1.cons w).trans pl.symm, by rw [List.map_cons, w2]⟩
/-- the parts: the cells of each number -/
theorem parts_form (T0 : LT) : ∃ W : List Int, partsL T0 = W.map (cellsW T0) ∧ W.Nodup ∧ (∀ w ∈ W, cellsW T0 w ≠ []) ∧ (∀ c w, lkA T0 c = some w → w ∈ W) ∧ W.length ≤ T0.length := by
  obtain ⟨i1, i2, i3, i4⟩ := grpL_ok (labT T0) _ (keysL T0) rfl
  generalize hG : grpL (labT T0) (keysL T0) = G at i1 i2 i3 i4
  have e : G.map (·.2) = (G.map (·.1)).map (cellsW T0) := by
    rw [List.map_map]
    exact List.map_congr_left fun e he => (i2 e he).1
  have hp : (partsL T0).Perm ((G.map (·.1)).map (cellsW T0)) := by
    unfold partsL
    rw [hG, e]
    exact sortE_perm _
  obtain ⟨W, w1, w2⟩ := perm_map (cellsW T0) _ _ hp
  refine ⟨W, w2, w1.nodup_iff.mpr i1, fun w hw => ?_, fun c w h => ?_, ?_⟩
  · obtain ⟨e, he, q⟩ := List.mem_map.mp (w1.mem_iff.mp hw)
    obtain ⟨q1, q2⟩ := i2 e he
    rw [← q]
    rw [show cellsW T0 e.1 = e.2 from q1.symm]
    exact q2
  · refine w1.mem_iff.mpr ?_
    have := i3 c (mem_keysL.mpr (by rw [h]; rfl))
    unfold labT at this
    rw [h] at this
    exact this
  · rw [w1.length_eq, List.length_map]
    refine Nat.le_trans i4 ?_
    unfold keysL
    rw [sortE_length, List.length_map]
    exact Nat.le_refl _

theorem flat_mem {T : LT} {W : List Int} {c : Int × Int} (hW : ∀ c w, lkA T c = some w → w ∈ W) : c ∈ (W.map (cellsW T)).flatten ↔ c ∈ keysL T := by
  rw [List.mem_flatten]
  constructor
  · rintro ⟨l, hl, hc⟩
    obtain ⟨w, _, rfl⟩ := List.mem_map.mp hl
    rw [mem_keysL, mem_cellsW.mp hc]
    rfl
  · intro h
    obtain ⟨w, hw⟩ := Option.isSome_iff_exists.mp (mem_keysL.mp h)
    exact ⟨_, List.mem_map_of_mem (hW c w hw), mem_cellsW.mpr hw⟩
theorem flat_nodup {T : LT} (hn : (T.map (·.1)).Nodup) {W : List Int} (hW : W.Nodup) : (W.map (cellsW T)).flatten.Nodup := by
  induction W with
  | nil => exact List.nodup_nil
  | cons w W ih =>
    rw [List.nodup_cons] at hW
    rw [List.map_cons, List.flatten_cons, List.nodup_append]
    refine ⟨(cellsW_pic hn w).nodup, ih hW.2, fun a ha b hb e => ?_⟩
    subst e
    obtain ⟨l, hl, hb⟩ := List.mem_flatten.mp hb
    obtain ⟨v, hv, rfl⟩ := List.mem_map.mp hl
    have := (mem_cellsW.mp ha).symm.trans (mem_cellsW.mp hb)
    cases this
    exact hW.1 hv
/-- all groups together are the picture -/
theorem flat_is {T : LT} (hn : (T.map (·.1)).Nodup) {W : List Int} (hW : W.Nodup) (hc : ∀ c w, lkA T c = some w → w ∈ W) : sortE (W.map (cellsW T)).flatten = keysL T :=
  (pic_of (flat_nodup hn hW)).ext (keysL_pic hn) fun c => by rw [mem_sortE, flat_mem hc]
theorem flat_len {T : LT} (hn : (T.map (·.1)).Nodup) {W : List Int} (hW : W.Nodup) (hc : ∀ c w, lkA T c = some w → w ∈ W) : (W.map (cellsW T)).flatten.length = (keysL T).length := by
  rw [← flat_is hn hW hc, sortE_length]
theorem gIt_keys {k : Int} {bs : List Int} (ss : List Int) {live : List (Int × Int)} (hP : Pic live) {T0 : LT} (h0 : T0.map (·.1) = live) (t : Nat) : (gIt k bs ss T0 t).map (·.1) = afterP k bs ss live t ∧ keysL (gIt k bs ss T0 t) = afterP k bs ss live t := by
  induction t with
  | zero =>
    refine ⟨h0, ?_⟩
    show sortE (T0.map (·.1)) = live
    rw [h0]
    exact hP.sort
  | succ t ih =>
    have hp := (afterP_pic (k := k) (bs := bs) (ss := ss) hP (t + 1)).sort
    rw [gIt_succ]
    rw [after_succ] at hp ⊢
    have e : (goT k bs ss (gIt k bs ss T0 t)).map (·.1) = nextP k bs ss (afterP k bs ss live t) := by rw [goT_keys, ih.2]
    refine ⟨e, ?_⟩
    unfold keysL
    rw [e, hp]
theorem gIt_cover {k : Int} (hk : Kind k) {bs : List Int} (hq : 0 ∉ bs) (ss : List Int) {T0 : LT} {W : List Int} (h : ∀ c w, lkA T0 c = some w → w ∈ W) (t : Nat) : ∀ c w, lkA (gIt k bs ss T0 t) c = some w → w ∈ W := by
  induction t with
  | zero => exact h
  | succ t ih =>
    intro c w hw
    rw [gIt_succ, lkA_go] at hw
    by_cases hc : c ∈ nextP k bs ss (keysL (gIt k bs ss T0 t))
    · rw [if_pos hc] at hw
      obtain ⟨v, hv⟩ := List.exists_mem_of_ne_nil _ (near_ne hk hq ss _ hc)
      have hm : (nearN k (gIt k bs ss T0 t) c).headD 0 ∈ nearN k (gIt k bs ss T0 t) c := by
        generalize nearN k (gIt k bs ss T0 t) c = L at hv
        cases L with
        | nil => exact absurd hv List.not_mem_nil
        | cons a L => exact List.mem_cons_self
      cases hw
      obtain ⟨d, _, e⟩ := mem_nearN.mp hm
      exact ih _ _ e
    · rw [if_neg hc] at hw
      cases hw
theorem cellsW_len (T : LT) (w : Int) : (cellsW T w).length ≤ (keysL T).length := List.length_filter_le _ _

def touchB (k : Int) (one other : List (Int × Int)) : Bool := other.any fun q => ((n9 k).map fun d => sh d q).any fun c => decide (c ∈ imgs9 k one)
theorem touch_sym (k : Int) (a b : List (Int × Int)) : touchB k a b = touchB k b a := by
  have : ∀ a b, touchB k a b = true → touchB k b a = true := fun a b h => by
    unfold touchB imgs9 at *
    simp only [List.any_eq_true, List.mem_map, List.mem_flatMap, decide_eq_true_eq] at h ⊢
    obtain ⟨q, hq, c, ⟨d, hd, e⟩, p, hp, f, hf, e2⟩ := h
    exact ⟨p, hp, c, ⟨f, hf, e2⟩, q, hq, d, hd, e⟩
  cases h : touchB k a b with
  | true => exact (this _ _ h).symm
  | false =>
    cases h2 : touchB k b a with
    | false => rfl
    | true => rw [this _ _ h2] at h; exact h.symm
theorem law_touch_is {k : Int} (hk : Kind k) (one other : List (Int × Int)) (h1 : one.length ≤ 1600) : f_law_touch [.int k, cells one, cells other] = .ok (.bl (touchB k one other)) [] := by
  obtain ⟨ρ', e, s4, s5, h4, h5, rfl⟩ := for_list (g := gSet 4) (body := b_law_touch_2) (e := cellP) (fun i ρ => ∃ s4 s5, notOwn (some s4) = true ∧ notOwn (some s5) = true ∧ ρ = [.val (.int k), .val (cells one), .val (cells other), .own (.dicT false (encE D.bl (allT (imgs9 k (one.take i))))), s4, s5]) (l := one) (ρ := [.val (.int k), .val (cells one), .val (cells other), .own (.dicT false []), .emp, .emp]) ⟨_, _, rfl, rfl, rfl⟩ (fun i p ρ hi hρ => by
    obtain ⟨s4, s5, h4, h5, rfl⟩ := hρ
    refine ⟨_, rfl, ?_⟩
    have en := near_is hk p
    have l1 : i < one.length := (List.getElem?_eq_some_iff.mp hi).1
    obtain ⟨ρ', e, s5, h5, rfl⟩ := for_list (g := gSet 5) (body := b_law_touch_1) (e := cellP) (fun j ρ => ∃ s5, notOwn (some s5) = true ∧ ρ = [.val (.int k), .val (cells one), .val (cells other), .own (.dicT false (encE D.bl (allT (imgs9 k (one.take i) ++ ((n9 k).map fun d => sh d p).take j)))), .val (cellP p), s5]) (l := (n9 k).map fun d => sh d p) (ρ := [.val (.int k), .val (cells one), .val (cells other), .own (.dicT false (encE D.bl (allT (imgs9 k (one.take i))))), .val (cellP p), s5]) ⟨_, h5, by rw [List.take_zero, List.append_nil]⟩ (fun j d ρ hj hρ => by
      obtain ⟨s5, h5, rfl⟩ := hρ
      obtain ⟨u, v⟩ := d
      refine ⟨_, rfl, ?_⟩
      have l3 := n9_len k
      have l4 := imgs9_take k one i
      generalize hL : imgs9 k (one.take i) ++ ((n9 k).map fun d => sh d p).take j = L
      have lL : L.length ≤ 19000 := by
        rw [← hL, List.length_append, List.length_take, List.length_map]
        omega
      have hz : (encE D.bl (allT L)).length < sizeLine := by
        rw [encE_len]
        exact szBl (Nat.le_trans (allT_len L) (by omega))
      rw [take_snoc hj, ← List.append_assoc, hL, allT_snoc]
      unfold b_law_touch_1
      simp! [cells, cellP, hz, pt_bl]
      exact ⟨_, .inl rfl, _, rfl, rfl⟩)
    rw [List.take_length, ← imgs9_snoc k hi] at e
    unfold b_law_touch_2
    simp! [cells] at e en ⊢
    simp! [en, e]
    exact ⟨_, .inl rfl, _, _, rfl, h5, rfl⟩)
  rw [List.take_length] at e
  obtain ⟨ρ2, ⟨t4, t5, g4, g5, rfl⟩, hh⟩ := forRun_find (g := gSet 4) (body := b_law_touch_3) (e := cellP) (p := fun q => ((n9 k).map fun d => sh d q).any fun c => decide (c ∈ imgs9 k one)) (v := fun _ => .bl true)
    (fun ρ => ∃ s4 s5, notOwn (some s4) = true ∧ notOwn (some s5) = true ∧ ρ = [.val (.int k), .val (cells one), .val (cells other), .own (.dicT false (encE D.bl (allT (imgs9 k one)))), s4, s5]) other [.val (.int k), .val (cells one), .val (cells other), .own (.dicT false (encE D.bl (allT (imgs9 k one)))), s4, s5] ⟨_, _, h4, h5, rfl⟩ (fun q hq ρ hρ => by
      obtain ⟨s4, s5, h4, h5, rfl⟩ := hρ
      refine ⟨_, rfl, ?_⟩
      have en := near_is hk q
      unfold b_law_touch_3
      have run : lcRun (gSet 5) xYes (xCmpO dInX (xVar 5) 3) [5] (((n9 k).map fun d => sh d q).map cellP) [] [.val (.int k), .val (cells one), .val (cells other), .own (.dicT false (encE D.bl (allT (imgs9 k one)))), .val (cellP q), s5] = .ok ((((n9 k).map fun d => sh d q).map id).map fun c => D.bl (decide (c ∈ imgs9 k one))) [.val (.int k), .val (cells one), .val (cells other), .own (.dicT false (encE D.bl (allT (imgs9 k one)))), .val (cellP q), s5] := by
        rw [lcMap (fun c => D.bl (decide (c ∈ imgs9 k one))) id]
        intro d hd
        obtain ⟨u, v⟩ := d
        simp! [cellP, lk_some, allT_lk, id]
      rw [List.map_id] at run
      have hz : (((n9 k).map fun d => sh d q).map fun c => D.bl (decide (c ∈ imgs9 k one))).length ≤ sizeLine := by
        rw [List.length_map, List.length_map]
        have := n9_len k
        exact szB (by omega)
      have hz2 : (((n9 k).map fun d => sh d q).map cellP).length ≤ sizeLine := by
        rw [List.length_map, List.length_map]
        have := n9_len k
        exact szB (by omega)
      have ha := any_map (fun c => decide (c ∈ imgs9 k one)) ((n9 k).map fun d => sh d q)
      simp! [cells] at run hz en ⊢
      cases hb : ((n9 k).map fun d => sh d q).any fun c => decide (c ∈ imgs9 k one) with
      | true =>
        rw [hb] at ha
        simp! [en, h5, run, hz, hz2, ha]
        exact ⟨_, ⟨_, _, rfl, h5, rfl⟩, .inr rfl⟩
      | false =>
        rw [hb] at ha
        simp! [en, h5, run, hz, hz2, ha]
        exact ⟨_, ⟨_, _, rfl, h5, rfl⟩, .inl (.inl rfl)⟩)
  unfold f_law_touch b_law_touch
  simp! [cells] at e hh ⊢
  rcases hh with ⟨hn, hh⟩ | ⟨a, ha, hh⟩
  · have : touchB k one other = false := by
      unfold touchB
      rw [List.any_eq_false]
      exact fun q hq => List.find?_eq_none.mp hn q hq
    rw [this]
    simp! [e, hh]
  · have : touchB k one other = true := by
      unfold touchB
      rw [List.any_eq_true]
      exact ⟨a, List.mem_of_find?_eq_some ha, List.find?_some (p := fun q => ((n9 k).map fun d => sh d q).any fun c => decide (c ∈ imgs9 k one)) ha⟩
    rw [this]
    simp! [e, hh]

/-- a labelling by which nothing ever touches is no finer than the program's -/
def Ref (s : GSt) (L0 L : LT) : Prop := ∃ f : Int → Int, (∀ c w, lkA s.1 c = some w → lkA L0 c = some (f w)) ∧ ∀ c w, lkA s.2.1 c = some w → lkA L c = some (f w)
theorem ref_step {k : Int} {L0 L : LT} (hL : Unc k L) (t : Int) {s : GSt} (h : Ref s L0 L) (c : Int × Int) : Ref (jStep k t s c) L0 L := by
  obtain ⟨f, h1, h2⟩ := h
  unfold jStep
  by_cases hc : (nearN k s.2.1 c).length < 2
  · rw [if_pos hc]; exact ⟨f, h1, h2⟩
  · rw [if_neg hc]
    have hS : ∀ w, w ∈ nearN k s.2.1 c → f w ∈ nearN k L c := fun w hw => by
      obtain ⟨d, hd, e⟩ := mem_nearN.mp hw
      exact mem_nearN.mpr ⟨d, hd, h2 _ _ e⟩
    have hr : ∀ w, f (relI (nearN k s.2.1 c) w) = f w := fun w => by
      unfold relI
      by_cases hw : w ∈ nearN k s.2.1 c
      · rw [if_pos hw]
        have hh : (nearN k s.2.1 c).headD 0 ∈ nearN k s.2.1 c := by
          generalize nearN k s.2.1 c = S at hw
          cases S with
          | nil => exact absurd hw List.not_mem_nil
          | cons a S => exact List.mem_cons_self
        exact hL c _ _ (hS _ hh) (hS _ hw)
      · rw [if_neg hw]
    refine ⟨f, fun b w hb => ?_, fun b w hb => ?_⟩
    · rw [show (s.1.map (rel (nearN k s.2.1 c)), s.2.1.map (rel (nearN k s.2.1 c)), s.2.2 ++ [(t, c)]).1 = s.1.map (rel (nearN k s.2.1 c)) from rfl, lkA_rel] at hb
      obtain ⟨v, hv, rfl⟩ := Option.map_eq_some_iff.mp hb
      rw [hr]
      exact h1 b v hv
    · rw [show (s.1.map (rel (nearN k s.2.1 c)), s.2.1.map (rel (nearN k s.2.1 c)), s.2.2 ++ [(t, c)]).2.1 = s.2.1.map (rel (nearN k s.2.1 c)) from rfl, lkA_rel] at hb
      obtain ⟨v, hv, rfl⟩ := Option.map_eq_some_iff.mp hb
      rw [hr]
      exact h2 b v hv
theorem ref_fold {k : Int} {L0 L : LT} (hL : Unc k L) (t : Int) : ∀ (cs : List (Int × Int)) (s : GSt), Ref s L0 L → Ref (cs.foldl (jStep k t) s) L0 L
  | [], s, h => h
  | c :: cs, s, h => ref_fold hL t cs _ (ref_step hL t h c)
theorem ref_turn {k : Int} (hk : Kind k) {bs : List Int} (hq : 0 ∉ bs) (ss : List Int) {L0 L : LT} (hL : Unc k L) (t : Int) {s : GSt} (h : Ref s L0 L) (hkeys : keysL s.2.1 = keysL L) : Ref (gTurn k bs ss s t) L0 (goT k bs ss L) := by
  have hf := ref_fold hL t (crowdL k s.2.1) s h
  obtain ⟨f1, f2, f3⟩ := jFold_keys k t (crowdL k s.2.1) s
  have hkk : keysL ((crowdL k s.2.1).foldl (jStep k t) s).2.1 = keysL L := by rw [← hkeys]; unfold keysL; rw [f2]
  unfold gTurn
  generalize (crowdL k s.2.1).foldl (jStep k t) s = u at hf hkk
  obtain ⟨f, h1, h2⟩ := hf
  refine ⟨f, h1, fun c w hw => ?_⟩
  have hw : lkA (goT k bs ss u.2.1) c = some w := hw
  rw [lkA_go] at hw ⊢
  rw [hkk] at hw
  by_cases hc : c ∈ nextP k bs ss (keysL L)
  · rw [if_pos hc] at hw ⊢
    have hne := near_ne hk hq ss u.2.1 (c := c) (by rw [hkk]; exact hc)
    have hm : (nearN k u.2.1 c).headD 0 ∈ nearN k u.2.1 c := by
      generalize nearN k u.2.1 c = S at hne
      cases S with
      | nil => exact absurd rfl hne
      | cons a S => exact List.mem_cons_self
    have hw : (nearN k u.2.1 c).headD 0 = w := Option.some.inj hw
    rw [hw] at hm
    obtain ⟨d, hd, e⟩ := mem_nearN.mp hm
    exact congrArg some (one_head (hL c) (mem_nearN.mpr ⟨d, hd, h2 _ _ e⟩))
  · rw [if_neg hc] at hw
    cases hw
theorem numF_lk : ∀ (l : List (Int × Int)) (n : Nat) (c : Int × Int) (w : Int), lkA (numF n l) c = some w → l[(w - n).toNat]? = some c ∧ (n : Int) ≤ w
  | [], n, c, w, h => by cases h
  | b :: l, n, c, w, h => by
    unfold numF at h
    rw [lkA_cons] at h
    by_cases hb : b = c
    · rw [if_pos hb] at h
      cases h
      rw [show ((n : Int) - n).toNat = 0 by omega, hb]
      exact ⟨rfl, Int.le_refl _⟩
    · rw [if_neg hb] at h
      obtain ⟨h1, h2⟩ := numF_lk l (n + 1) c w h
      refine ⟨?_, by omega⟩
      rw [show (w - n).toNat = (w - (n + 1 : Nat)).toNat + 1 by omega, List.getElem?_cons_succ]
      exact h1
theorem ref_run {k : Int} (hk : Kind k) {bs : List Int} (hq : 0 ∉ bs) (ss : List Int) {live : List (Int × Int)} (hP : Pic live) {L0 : LT} (hL0 : L0.map (·.1) = live) (n : Nat) (hU : ∀ i, i < n → Unc k (gIt k bs ss L0 i)) : Ref (gRunN k bs ss live n) L0 (gIt k bs ss L0 n) := by
  induction n with
  | zero =>
    have key : ∀ c w, lkA (numT live) c = some w → lkA L0 c = some (labT L0 (live.getD w.toNat (0, 0))) := fun c w h => by
      obtain ⟨h1, h2⟩ := numF_lk live 0 c w h
      have e : live.getD w.toNat (0, 0) = c := by
        rw [List.getD_eq_getElem?_getD, show w.toNat = (w - ((0 : Nat) : Int)).toNat by omega, h1]
        rfl
      rw [e]
      have hc : c ∈ L0.map (·.1) := by rw [hL0]; exact List.mem_of_getElem? h1
      obtain ⟨v, hv⟩ := Option.isSome_iff_exists.mp ((mem_keys _ _).mp hc)
      unfold labT
      rw [hv]
      rfl
    exact ⟨_, key, key⟩
  | succ n ih =>
    rw [gRun_succ, gIt_succ]
    refine ref_turn hk hq ss (hU n (by omega)) (n : Int) (ih fun i hi => hU i (by omega)) ?_
    rw [(gRun_keys (k := k) (bs := bs) ss hP n).2.2, (gIt_keys (k := k) (bs := bs) ss hP hL0 n).2]

theorem touch_of {k : Int} {a b : List (Int × Int)} {p q c : Int × Int} (hp : p ∈ a) (hq : q ∈ b) {d e : Int × Int} (hd : d ∈ n9 k) (he : e ∈ n9 k) (h1 : sh d p = c) (h2 : sh e q = c) : touchB k a b = true := by
  unfold touchB imgs9
  simp only [List.any_eq_true, List.mem_map, List.mem_flatMap, decide_eq_true_eq]
  exact ⟨q, hq, c, ⟨e, he, h2⟩, p, hp, d, hd, h1⟩
theorem of_touch {k : Int} {a b : List (Int × Int)} (h : touchB k a b = true) : ∃ p ∈ a, ∃ q ∈ b, ∃ d ∈ n9 k, ∃ e ∈ n9 k, sh d p = sh e q := by
  unfold touchB imgs9 at h
  simp only [List.any_eq_true, List.mem_map, List.mem_flatMap, decide_eq_true_eq] at h
  obtain ⟨q, hq, c, ⟨e, he, h2⟩, p, hp, d, hd, h1⟩ := h
  exact ⟨p, hp, q, hq, d, hd, e, he, h1.trans h2.symm⟩
/-- parts do not touch -/
theorem parts_apart {k : Int} {T : LT} (h : Unc k T) {w v : Int} (hne : w ≠ v) : touchB k (cellsW T w) (cellsW T v) = false := by
  cases ht : touchB k (cellsW T w) (cellsW T v) with
  | false => rfl
  | true =>
    obtain ⟨p, hp, q, hq, d, hd, e, he, hs⟩ := of_touch ht
    exact absurd (h (sh d p) w v (near_of (mem_cellsW.mp hp) hd rfl) (near_of (mem_cellsW.mp hq) he hs.symm)) hne
theorem after_cells {k : Int} (hk : Kind k) {bs : List Int} (hq : 0 ∉ bs) (ss : List Int) {T0 : LT} (w : Int) : ∀ n, (∀ i, i < n → Unc k (gIt k bs ss T0 i)) → afterP k bs ss (cellsW T0 w) n = cellsW (gIt k bs ss T0 n) w
  | 0, _ => rfl
  | n + 1, h => by
    rw [after_succ, after_cells hk hq ss w n fun i hi => h i (by omega), gIt_succ, split_next hk hq ss (h n (by omega))]
def cutL (T0 : LT) (w : Int) (A : List (Int × Int)) : LT := T0.map fun e => (e.1, if e.2 = w then (if e.1 ∈ A then 0 else 1) else 2)
theorem lkA_cut (T0 : LT) (w : Int) (A : List (Int × Int)) (c : Int × Int) : lkA (cutL T0 w A) c = (lkA T0 c).map fun v => if v = w then (if c ∈ A then 0 else 1) else 2 := by
  unfold cutL
  induction T0 with
  | nil => rfl
  | cons e T ih =>
    obtain ⟨b, v⟩ := e
    rw [List.map_cons, lkA_cons, lkA_cons, ih]
    by_cases h : b = c
    · rw [if_pos h, if_pos h]
      subst h
      rfl
    · rw [if_neg h, if_neg h]
theorem cut_keys (T0 : LT) (w : Int) (A : List (Int × Int)) : (cutL T0 w A).map (·.1) = T0.map (·.1) := by
  unfold cutL
  rw [List.map_map]
  rfl
structure RelC (k : Int) (bs ss : List Int) (w : Int) (A B : List (Int × Int)) (t : Nat) (T L : LT) : Prop where
  rng : ∀ c x, lkA L c = some x → x = 0 ∨ x = 1 ∨ x = 2
  same : ∀ c v x, lkA T c = some v → lkA L c = some x → (v = w ↔ x ≠ 2)
  a : cellsW L 0 = afterP k bs ss A t
  b : cellsW L 1 = afterP k bs ss B t
  keys : keysL T = keysL L
theorem relC_unc {k : Int} {bs ss : List Int} {w : Int} {A B : List (Int × Int)} {t : Nat} {T L : LT} (r : RelC k bs ss w A B t T L) (hU : Unc k T) (no : touchB k (afterP k bs ss A t) (afterP k bs ss B t) = false) : Unc k L := fun c x y hx hy => by
  obtain ⟨d, hd, e1⟩ := mem_nearN.mp hx
  obtain ⟨f, hf, e2⟩ := mem_nearN.mp hy
  have look : ∀ p z, lkA L p = some z → ∃ v, lkA T p = some v := fun p z h => Option.isSome_iff_exists.mp (mem_keysL.mp (by rw [r.keys]; exact mem_keysL.mpr (by rw [h]; rfl)))
  obtain ⟨v, hv⟩ := look _ _ e1
  obtain ⟨u, hu⟩ := look _ _ e2
  have hvu : v = u := hU c v u (mem_nearN.mpr ⟨d, hd, hv⟩) (mem_nearN.mpr ⟨f, hf, hu⟩)
  subst hvu
  have s1 := r.same _ _ _ hv e1
  have s2 := r.same _ _ _ hu e2
  have dn := n9_neg hd
  have fn := n9_neg hf
  have bad : ∀ p q, lkA L p = some 0 → lkA L q = some 1 → ∀ d ∈ n9 k, ∀ e ∈ n9 k, sh d p = c → sh e q = c → False := fun p q hp hq d hd e he h1 h2 => by
    have := touch_of (k := k) (a := afterP k bs ss A t) (b := afterP k bs ss B t) (by rw [← r.a]; exact mem_cellsW.mpr hp) (by rw [← r.b]; exact mem_cellsW.mpr hq) hd he h1 h2
    rw [no] at this
    cases this
  by_cases hw : v = w
  · have n1 := s1.mp hw
    have n2 := s2.mp hw
    rcases r.rng _ _ e1 with rfl | rfl | rfl
    · rcases r.rng _ _ e2 with rfl | rfl | rfl
      · rfl
      · exact (bad _ _ e1 e2 _ dn _ fn (sh_neg d c) (sh_neg f c)).elim
      · exact absurd rfl n2
    · rcases r.rng _ _ e2 with rfl | rfl | rfl
      · exact (bad _ _ e2 e1 _ fn _ dn (sh_neg f c) (sh_neg d c)).elim
      · rfl
      · exact absurd rfl n2
    · exact absurd rfl n1
  · have n1 : x = 2 := Classical.byContradiction fun z => hw (s1.mpr z)
    have n2 : y = 2 := Classical.byContradiction fun z => hw (s2.mpr z)
    rw [n1, n2]
theorem relC_turn {k : Int} (hk : Kind k) {bs : List Int} (hq : 0 ∉ bs) (ss : List Int) {w : Int} {A B : List (Int × Int)} {t : Nat} {T L : LT} (r : RelC k bs ss w A B t T L) (hU : Unc k T) (hL : Unc k L) : RelC k bs ss w A B (t + 1) (goT k bs ss T) (goT k bs ss L) := by
  have head : ∀ (X : LT) c, c ∈ nextP k bs ss (keysL X) → (nearN k X c).headD 0 ∈ nearN k X c := fun X c hc => by
    have hne := near_ne hk hq ss X hc
    generalize nearN k X c = S at hne
    cases S with
    | nil => exact absurd rfl hne
    | cons a S => exact List.mem_cons_self
  refine ⟨fun c x h => ?_, fun c v x h1 h2 => ?_, ?_, ?_, ?_⟩
  · rw [lkA_go] at h
    by_cases hc : c ∈ nextP k bs ss (keysL L)
    · rw [if_pos hc] at h
      have hm := head L c hc
      rw [Option.some.inj h] at hm
      obtain ⟨d, _, e⟩ := mem_nearN.mp hm
      exact r.rng _ _ e
    · rw [if_neg hc] at h; cases h
  · rw [lkA_go] at h1 h2
    rw [r.keys] at h1
    by_cases hc : c ∈ nextP k bs ss (keysL L)
    · rw [if_pos hc] at h1 h2
      have hm := head L c hc
      rw [Option.some.inj h2] at hm
      obtain ⟨d, hd, e⟩ := mem_nearN.mp hm
      obtain ⟨u, hu⟩ := Option.isSome_iff_exists.mp (mem_keysL.mp (show sh d c ∈ keysL T by rw [r.keys]; exact mem_keysL.mpr (by rw [e]; rfl)))
      have := one_head (hU c) (mem_nearN.mpr ⟨d, hd, hu⟩)
      rw [this] at h1
      cases h1
      exact r.same _ _ _ hu e
    · rw [if_neg hc] at h1; cases h1
  · rw [split_next hk hq ss hL, r.a, after_succ]
  · rw [split_next hk hq ss hL, r.b, after_succ]
  · unfold keysL
    rw [goT_keys, goT_keys, r.keys]
theorem cut_run {k : Int} (hk : Kind k) {bs : List Int} (hq : 0 ∉ bs) (ss : List Int) {T0 : LT} (hn : (T0.map (·.1)).Nodup) {N : Nat} (hU : ∀ i, i < N → Unc k (gIt k bs ss T0 i)) {w : Int} {A B : List (Int × Int)} (hA : Pic A) (hB : Pic B) (hAB : ∀ c, lkA T0 c = some w ↔ c ∈ A ∨ c ∈ B) (hd : ∀ c ∈ A, c ∉ B) : ∀ t, t ≤ N → (∀ j, j < t → touchB k (afterP k bs ss A j) (afterP k bs ss B j) = false) → RelC k bs ss w A B t (gIt k bs ss T0 t) (gIt k bs ss (cutL T0 w A) t) := by
  have hn2 : ((cutL T0 w A).map (·.1)).Nodup := by rw [cut_keys]; exact hn
  have r0 : RelC k bs ss w A B 0 T0 (cutL T0 w A) := by
    refine ⟨fun c x h => ?_, fun c v x h1 h2 => ?_, ?_, ?_, ?_⟩
    · rw [lkA_cut] at h
      obtain ⟨v, _, rfl⟩ := Option.map_eq_some_iff.mp h
      split
      · split
        · exact .inl rfl
        · exact .inr (.inl rfl)
      · exact .inr (.inr rfl)
    · rw [lkA_cut, h1] at h2
      cases h2
      show v = w ↔ (if v = w then (if c ∈ A then (0 : Int) else 1) else 2) ≠ 2
      by_cases hw : v = w
      · rw [if_pos hw]
        refine ⟨fun _ => ?_, fun _ => hw⟩
        split <;> decide
      · rw [if_neg hw]
        exact ⟨fun z => absurd z hw, fun z => absurd rfl z⟩
    · refine (cellsW_pic hn2 0).ext hA fun c => ?_
      rw [mem_cellsW, lkA_cut]
      constructor
      · intro h
        obtain ⟨v, _, e⟩ := Option.map_eq_some_iff.mp h
        by_cases hw : v = w
        · rw [if_pos hw] at e
          by_cases hc : c ∈ A
          · exact hc
          · rw [if_neg hc] at e; cases e
        · rw [if_neg hw] at e; cases e
      · intro (h : c ∈ A)
        rw [(hAB c).mpr (.inl h)]
        show some (if w = w then (if c ∈ A then (0 : Int) else 1) else 2) = some 0
        rw [if_pos rfl, if_pos h]
    · refine (cellsW_pic hn2 1).ext hB fun c => ?_
      rw [mem_cellsW, lkA_cut]
      constructor
      · intro h
        obtain ⟨v, hv, e⟩ := Option.map_eq_some_iff.mp h
        by_cases hw : v = w
        · rw [if_pos hw] at e
          by_cases hc : c ∈ A
          · rw [if_pos hc] at e; cases e
          · subst hw
            exact ((hAB c).mp hv).resolve_left hc
        · rw [if_neg hw] at e; cases e
      · intro (h : c ∈ B)
        rw [(hAB c).mpr (.inr h)]
        show some (if w = w then (if c ∈ A then (0 : Int) else 1) else 2) = some 1
        rw [if_pos rfl, if_neg (fun z => hd c z h)]
    · unfold keysL
      rw [cut_keys]
  intro t
  induction t with
  | zero => exact fun _ _ => r0
  | succ t ih =>
    intro ht no
    have r := ih (by omega) fun j hj => no j (by omega)
    exact relC_turn hk hq ss r (hU t (by omega)) (relC_unc r (hU t (by omega)) (no t (by omega)))
theorem relC_len {k : Int} {bs ss : List Int} {w : Int} {A B : List (Int × Int)} {t : Nat} {T L : LT} (r : RelC k bs ss w A B t T L) : (afterP k bs ss A t).length ≤ (keysL T).length ∧ (afterP k bs ss B t).length ≤ (keysL T).length := by
  rw [← r.a, ← r.b, r.keys]
  exact ⟨List.length_filter_le _ _, List.length_filter_le _ _⟩
/-- the two halves of a part meet -/
theorem cut_meets {k : Int} (hk : Kind k) {bs : List Int} (hq : 0 ∉ bs) (ss : List Int) {live : List (Int × Int)} (hP : Pic live) (N : Nat) {w : Int} {A B : List (Int × Int)} (hA : Pic A) (hB : Pic B) (hAB : ∀ c, lkA (gRunN k bs ss live N).1 c = some w ↔ c ∈ A ∨ c ∈ B) (hd : ∀ c ∈ A, c ∉ B) {a b : Int × Int} (ha : a ∈ A) (hb : b ∈ B) : ∃ t, t < N ∧ touchB k (afterP k bs ss A t) (afterP k bs ss B t) = true := by
  refine Classical.byContradiction fun z => ?_
  have no : ∀ t, t < N → touchB k (afterP k bs ss A t) (afterP k bs ss B t) = false := fun t ht => by
    cases h : touchB k (afterP k bs ss A t) (afterP k bs ss B t) with
    | false => rfl
    | true => exact absurd ⟨t, ht, h⟩ z
  obtain ⟨_, hU⟩ := inv_run hk hq ss live N
  obtain ⟨h0, _, _⟩ := gRun_keys (k := k) (bs := bs) ss hP N
  have rr := fun L0 h1 h2 => ref_run (k := k) hk (bs := bs) hq ss hP (L0 := L0) h1 N h2
  generalize (gRunN k bs ss live N) = u at hAB hU h0 rr
  have hn : (u.1.map (·.1)).Nodup := by rw [h0]; exact hP.nodup
  have run := fun t ht => cut_run hk hq ss hn hU hA hB hAB hd t ht fun j hj => no j (by omega)
  obtain ⟨f, f1, _⟩ := rr (cutL u.1 w A) (by rw [cut_keys]; exact h0) fun i hi => relC_unc (run i (by omega)) (hU i hi) (no i hi)
  have wa := (hAB a).mpr (.inl ha)
  have wb := (hAB b).mpr (.inr hb)
  have q1 := f1 a w wa
  have q2 := f1 b w wb
  rw [lkA_cut, wa] at q1
  rw [lkA_cut, wb] at q2
  have q1 : (if w = w then (if a ∈ A then (0 : Int) else 1) else 2) = f w := Option.some.inj q1
  have q2 : (if w = w then (if b ∈ A then (0 : Int) else 1) else 2) = f w := Option.some.inj q2
  rw [if_pos rfl, if_pos ha] at q1
  rw [if_pos rfl, if_neg (fun z => hd b z hb)] at q2
  rw [← q1] at q2
  cases q2

def meetR (k : Int) (bs ss : List Int) (one other : List (Int × Int)) (i : Nat) : Option D := if touchB k (afterP k bs ss one i) (afterP k bs ss other i) = true then some (.bl true) else none
theorem first_no {r : Nat → Option D} : ∀ (n i : Nat), (∀ j, i ≤ j → j < i + n → r j = none) → first r i n = none
  | 0, _, _ => rfl
  | n + 1, i, h => by
    unfold first
    rw [h i (Nat.le_refl _) (by omega), first_no n (i + 1) fun j h1 h2 => h j (by omega) (by omega)]
    rfl
theorem first_yes {r : Nat → Option D} {v : D} (hv : ∀ j x, r j = some x → x = v) : ∀ (n i : Nat), (∃ j, i ≤ j ∧ j < i + n ∧ r j ≠ none) → first r i n = some v
  | 0, i, ⟨j, h1, h2, _⟩ => absurd h2 (by omega)
  | n + 1, i, ⟨j, h1, h2, h3⟩ => by
    unfold first
    cases e : r i with
    | some x => rw [hv i x e]; rfl
    | none =>
      have : i ≠ j := fun z => h3 (by rw [← z]; exact e)
      rw [first_yes hv n (i + 1) ⟨j, by omega, by omega, h3⟩]
      rfl
theorem law_meet_is {k : Int} (hk : Kind k) {bs : List Int} (hq : 0 ∉ bs) (ss : List Int) (one other : List (Int × Int)) (n : Nat) {N : Int} (eN : (n : Int) = N) (hn : n ≤ 100) (hs : ∀ i, i < n → (∀ j, j < i → touchB k (afterP k bs ss one j) (afterP k bs ss other j) = false) → (afterP k bs ss one i).length ≤ 1600 ∧ (afterP k bs ss other i).length ≤ 1600) :
    f_law_meet [ruleD k bs ss, cells one, cells other, .int N] = .ok ((first (meetR k bs ss one other) 0 n).getD (.bl false)) [] := by
  obtain ⟨ρ', hh⟩ := forRun_first (g := gSet 4) (body := b_law_meet_1) (e := fun i : Nat => D.int (0 + (i : Int))) (fun i ρ => (∃ s4, ρ = [.val (ruleD k bs ss), .val (cells (afterP k bs ss one i)), .val (cells (afterP k bs ss other i)), .val (.int N), s4]) ∧ ∀ j, j < i → touchB k (afterP k bs ss one j) (afterP k bs ss other j) = false) (meetR k bs ss one other) (List.range n) 0 [.val (ruleD k bs ss), .val (cells one), .val (cells other), .val (.int N), .emp] ⟨⟨_, rfl⟩, fun j hj => absurd hj (Nat.not_lt_zero j)⟩ (fun i a ρ hi hρ => by
    rw [Nat.zero_add] at hρ
    obtain ⟨⟨s4, rfl⟩, hno⟩ := hρ
    have hlt := (List.getElem?_eq_some_iff.mp hi).1
    rw [List.length_range] at hlt
    have ha : a = i := by
      rw [List.getElem?_range hlt] at hi
      exact (Option.some.inj hi).symm
    subst ha
    refine ⟨_, rfl, ?_⟩
    rw [Nat.zero_add]
    have et := law_touch_is hk (afterP k bs ss one a) (afterP k bs ss other a) (hs a hlt hno).1
    have e1 := law_next_is hk hq ss (afterP k bs ss one a) (hs a hlt hno).1
    have e2 := law_next_is hk hq ss (afterP k bs ss other a) (hs a hlt hno).2
    unfold meetR b_law_meet_1
    cases hb : touchB k (afterP k bs ss one a) (afterP k bs ss other a) with
    | true =>
      rw [hb] at et
      simp! [ruleD] at et ⊢
      simp! [et, Int.zero_add]
      exact ⟨_, .inr ⟨_, rfl, rfl⟩⟩
    | false =>
      rw [hb] at et
      simp! [ruleD] at et e1 e2 ⊢
      simp! [et, e1, e2]
      exact ⟨_, .inl ⟨.inl rfl, ⟨_, rfl⟩, fun j hj => by
        by_cases e : j = a
        · rw [e]; exact hb
        · exact hno j (by omega)⟩⟩)
  rw [List.length_range, show (List.range n).map (fun i : Nat => D.int (0 + (i : Int))) = rangeD 0 n from rfl] at hh
  have hr : inR N = true := by rw [← eN]; exact inR_of (by omega)
  have hT : N.toNat = n := by omega
  unfold f_law_meet b_law_meet
  rcases hh with ⟨hf, hh, ⟨s4, rfl⟩, _⟩ | ⟨v, hf, hh⟩
  · rw [hf]
    simp! [zaa] at hh ⊢
    simp! [hr, hT, hh]
    rfl
  · rw [hf]
    simp! [zaa] at hh ⊢
    simp! [hr, hT, hh]
    rfl
theorem meet_yes {k : Int} (hk : Kind k) {bs : List Int} (hq : 0 ∉ bs) (ss : List Int) (one other : List (Int × Int)) (n : Nat) {N : Int} (eN : (n : Int) = N) (hn : n ≤ 100) (hs : ∀ i, i < n → (∀ j, j < i → touchB k (afterP k bs ss one j) (afterP k bs ss other j) = false) → (afterP k bs ss one i).length ≤ 1600 ∧ (afterP k bs ss other i).length ≤ 1600) (h : ∃ t, t < n ∧ touchB k (afterP k bs ss one t) (afterP k bs ss other t) = true) :
    f_law_meet [ruleD k bs ss, cells one, cells other, .int N] = .ok (.bl true) [] := by
  obtain ⟨t, ht, hb⟩ := h
  rw [law_meet_is hk hq ss one other n eN hn hs, first_yes (v := .bl true) (fun j x hx => by
    unfold meetR at hx
    split at hx
    · exact (Option.some.inj hx).symm
    · cases hx) n 0 ⟨t, Nat.zero_le _, by omega, by unfold meetR; rw [if_pos hb]; exact fun z => by cases z⟩]
  rfl
theorem meet_no {k : Int} (hk : Kind k) {bs : List Int} (hq : 0 ∉ bs) (ss : List Int) (one other : List (Int × Int)) (n : Nat) {N : Int} (eN : (n : Int) = N) (hn : n ≤ 100) (hs : ∀ i, i < n → (∀ j, j < i → touchB k (afterP k bs ss one j) (afterP k bs ss other j) = false) → (afterP k bs ss one i).length ≤ 1600 ∧ (afterP k bs ss other i).length ≤ 1600) (h : ∀ t, t < n → touchB k (afterP k bs ss one t) (afterP k bs ss other t) = false) :
    f_law_meet [ruleD k bs ss, cells one, cells other, .int N] = .ok (.bl false) [] := by
  rw [law_meet_is hk hq ss one other n eN hn hs, first_no n 0 fun j _ hj => by
    unfold meetR
    rw [if_neg (by rw [h j (by omega)]; decide)]]
  rfl
/-- a part cut in two by the figures of a number -/
abbrev CutS := List (Int × Int) × List (Int × Int) × Int
def cutSt (s : CutS) (c : Int × Int) : CutS := if s.2.2 % 2 = 1 then (s.1 ++ [c], s.2.1, s.2.2 / 2) else (s.1, s.2.1 ++ [c], s.2.2 / 2)
def cutR (Q : List (Int × Int)) (s : CutS) : CutS := Q.foldl cutSt s
theorem cutR_ok : ∀ (Q : List (Int × Int)) (s : CutS), ∃ A B, (cutR Q s).1 = s.1 ++ A ∧ (cutR Q s).2.1 = s.2.1 ++ B ∧ A.Sublist Q ∧ B.Sublist Q ∧ (∀ c, c ∈ Q ↔ c ∈ A ∨ c ∈ B) ∧ (Q.Nodup → ∀ c ∈ A, c ∉ B) ∧ (A = [] → 0 ≤ s.2.2 → s.2.2 < 2 ^ Q.length → s.2.2 = 0)
  | [], s => ⟨[], [], (List.append_nil _).symm, (List.append_nil _).symm, .slnil, .slnil, fun c => by simp, fun _ c h => absurd h List.not_mem_nil, fun _ h1 h2 => by
      rw [List.length_nil] at h2
      have : (2 : Int) ^ 0 = 1 := rfl
      omega⟩
  | c :: Q, s => by
    obtain ⟨A, B, a1, a2, a3, a4, a5, a6, a7⟩ := cutR_ok Q (cutSt s c)
    unfold cutR at a1 a2 ⊢
    rw [List.foldl_cons]
    unfold cutSt at a1 a2 a7
    by_cases h : s.2.2 % 2 = 1
    · rw [if_pos h] at a1 a2 a7
      refine ⟨c :: A, B, ?_, ?_, a3.cons₂ c, a4.cons c, fun d => ?_, fun hn d hd => ?_, fun z => by cases z⟩
      · unfold cutSt at *
        rw [if_pos h, a1, List.append_assoc]
        rfl
      · unfold cutSt at *
        rw [if_pos h, a2]
      · rw [List.mem_cons, List.mem_cons, a5 d, or_assoc]
      · rw [List.nodup_cons] at hn
        rcases List.mem_cons.mp hd with rfl | hd
        · exact fun z => hn.1 (a4.subset z)
        · exact a6 hn.2 d hd
    · rw [if_neg h] at a1 a2 a7
      refine ⟨A, c :: B, ?_, ?_, a3.cons c, a4.cons₂ c, fun d => ?_, fun hn d hd => ?_, fun z h0 hl => ?_⟩
      · unfold cutSt at *
        rw [if_neg h, a1]
      · unfold cutSt at *
        rw [if_neg h, a2, List.append_assoc]
        rfl
      · rw [List.mem_cons, List.mem_cons, a5 d]
        exact ⟨fun z => z.elim (fun z => .inr (.inl z)) fun z => z.elim .inl fun z => .inr (.inr z), fun z => z.elim (fun z => .inr (.inl z)) fun z => z.elim .inl fun z => .inr (.inr z)⟩
      · rw [List.nodup_cons] at hn
        intro z
        rcases List.mem_cons.mp z with e | z
        · subst e
          exact hn.1 (a3.subset hd)
        · exact a6 hn.2 d hd z
      · have hp : (2 : Int) ^ (c :: Q).length = 2 * 2 ^ Q.length := by rw [List.length_cons, Int.pow_succ, Int.mul_comm]
        have := a7 z (show 0 ≤ s.2.2 / 2 by omega) (show s.2.2 / 2 < 2 ^ Q.length by omega)
        have : s.2.2 / 2 = 0 := this
        omega
theorem cutG_tail (a : D) (l : List D) : cutG (a :: l) (some 1) none = l := by
  exact cutG_from (a :: l) 1
theorem cut_is (p : Int × Int) (Q : List (Int × Int)) (hl : Q.length ≤ 440) (x : Int) : f_law_cut [cells (p :: Q), .int x] = .ok (.tup [cells (cutR Q ([], [p], x)).1, cells (cutR Q ([], [p], x)).2.1]) [] := by
  obtain ⟨ρ', e, s4, rfl⟩ := for_list (g := gSet 4) (body := b_law_cut_1) (e := cellP) (fun i ρ => ∃ s4, ρ = [.val (cells (p :: Q)), .val (.int (cutR (Q.take i) ([], [p], x)).2.2), .own (cells (cutR (Q.take i) ([], [p], x)).1), .own (cells (cutR (Q.take i) ([], [p], x)).2.1), s4]) (l := Q) (ρ := [.val (cells (p :: Q)), .val (.int x), .own (.lst []), .own (.lst [cellP p]), .emp]) ⟨_, rfl⟩ (fun i c ρ hi hρ => by
    obtain ⟨s4, rfl⟩ := hρ
    refine ⟨_, rfl, ?_⟩
    have l1 : i < Q.length := (List.getElem?_eq_some_iff.mp hi).1
    have hs : cutR (Q.take (i + 1)) ([], [p], x) = cutSt (cutR (Q.take i) ([], [p], x)) c := by
      rw [take_snoc hi]
      unfold cutR
      rw [List.foldl_append]
      rfl
    obtain ⟨A, B, a1, a2, a3, a4, _⟩ := cutR_ok (Q.take i) ([], [p], x)
    have la : (cutR (Q.take i) ([], [p], x)).1.length ≤ 440 := by
      have := a3.length_le
      rw [a1, List.nil_append]
      rw [List.length_take] at this
      omega
    have lb : (cutR (Q.take i) ([], [p], x)).2.1.length ≤ 450 := by
      have := a4.length_le
      rw [a2, List.length_append]
      rw [List.length_take] at this
      show 1 + B.length ≤ 450
      omega
    rw [hs]
    generalize cutR (Q.take i) ([], [p], x) = u at la lb
    have hz1 : (u.1.map cellP).length < sizeLine := by rw [List.length_map]; exact szBl (by omega)
    have hz2 : (u.2.1.map cellP).length < sizeLine := by rw [List.length_map]; exact szBl (by omega)
    unfold b_law_cut_1 cutSt
    by_cases h : u.2.2 % 2 = 1
    · rw [if_pos h]
      dsimp only
      simp! [cells, h, hz1, List.map_append, List.map_cons, List.map_nil]
      exact ⟨_, .inl rfl, _, rfl⟩
    · rw [if_neg h]
      dsimp only
      simp! [cells, h, hz2, List.map_append, List.map_cons, List.map_nil]
      exact ⟨_, .inl rfl, _, rfl⟩)
  rw [List.take_length] at e
  have hz : (Q.map cellP).length ≤ sizeLine := by rw [List.length_map]; exact szB (by omega)
  have hz3 : (cellP p :: Q.map cellP).length ≤ sizeLine := by rw [List.length_cons, List.length_map]; exact szB (by omega)
  unfold f_law_cut b_law_cut
  simp! [cells, List.map_cons] at e ⊢
  simp! [cutG_tail, e, hz, hz3]

theorem shl_ex (m : Nat) (hm : m ≤ 8) : ∃ M : Int, dShl (.int 1) (.int (m : Int)) = some (.int M) ∧ M = 2 ^ m ∧ 1 ≤ M ∧ M ≤ 256 ∧ (6 ≤ m → 64 ≤ M) := by
  rcases (show m = 0 ∨ m = 1 ∨ m = 2 ∨ m = 3 ∨ m = 4 ∨ m = 5 ∨ m = 6 ∨ m = 7 ∨ m = 8 by omega) with rfl | rfl | rfl | rfl | rfl | rfl | rfl | rfl | rfl
  · exact ⟨1, rfl, rfl, by decide, by decide, by decide⟩
  · exact ⟨2, rfl, rfl, by decide, by decide, by decide⟩
  · exact ⟨4, rfl, rfl, by decide, by decide, by decide⟩
  · exact ⟨8, rfl, rfl, by decide, by decide, by decide⟩
  · exact ⟨16, rfl, rfl, by decide, by decide, by decide⟩
  · exact ⟨32, rfl, rfl, by decide, by decide, by decide⟩
  · exact ⟨64, rfl, rfl, by decide, by decide, by decide⟩
  · exact ⟨128, rfl, rfl, by decide, by decide, by decide⟩
  · exact ⟨256, rfl, rfl, by decide, by decide, by decide⟩
/-- numbers drawn from 1 to M - 1 -/
theorem ways_ex {n : Nat} {p : D} (hp : PenOk n p) (hn : n + 50 < 2 ^ 60) (S1 S2 S3 : Slot) (M : Int) (h1 : 2 ≤ M) (h2 : M ≤ 256) (Y : List D) (hY : ((Y.length : Nat) : Int) = M - 1) : ∃ (xs : List Int) (q : D) (s5 : Slot), lcRun (gSet 5) xYes (xOp2 dAdd (xC (.int 1)) (xCallB fDraw 0 (xCons (xOpL dLen (xCons (xVar 4) xNil)) xNil))) [5] (rangeD 0 30) [] [.own p, S1, S2, S3, .val (.lst Y), .emp, .emp, .emp, .emp] = .ok (xs.map D.int) [.own q, S1, S2, S3, .val (.lst Y), .emp, .emp, .emp, .emp] ∧ (∀ x ∈ xs, 1 ≤ x ∧ x < M) ∧ xs.length ≤ 30 ∧ PenOk (n + 30) q := by
  obtain ⟨acc, ρ', run, q, xs, rfl, rfl, hx, hl, hq⟩ := lcRun_inv (g := gSet 5) (tt := xYes) (te := (xOp2 dAdd (xC (.int 1)) (xCallB fDraw 0 (xCons (xOpL dLen (xCons (xVar 4) xNil)) xNil)))) (vs := [5]) (fun i acc ρ => ∃ (q : D) (xs : List Int), ρ = [.own q, S1, S2, S3, .val (.lst Y), .emp, .emp, .emp, .emp] ∧ acc = xs.map D.int ∧ (∀ x ∈ xs, 1 ≤ x ∧ x < M) ∧ xs.length ≤ i ∧ PenOk (n + i) q)
    (rangeD 0 30) 0 [] [.own p, S1, S2, S3, .val (.lst Y), .emp, .emp, .emp, .emp] ⟨p, [], rfl, rfl, fun x h => absurd h List.not_mem_nil, Nat.le_refl _, hp⟩ (fun i d acc ρ hd hρ => by
      obtain ⟨hi, rfl⟩ := rangeD_get hd
      obtain ⟨q, xs, rfl, rfl, hx, hl, hq⟩ := hρ
      obtain ⟨y, q', e, a1, b1, hq'⟩ := draw_ex hq (by omega) (m := M - 1) (by omega) (by omega)
      refine .inl ⟨.int (1 + y), [.own q', S1, S2, S3, .val (.lst Y), .emp, .emp, .emp, .emp], ?_, q', xs ++ [1 + y], rfl, by rw [List.map_append]; rfl, fun x h => ?_, by rw [List.length_append, List.length_singleton]; omega, hq'⟩
      · simp! [hY, e]
      · rcases List.mem_append.mp h with h | h
        · exact hx x h
        · rw [List.mem_singleton.mp h]; omega)
  rw [rangeD_len, Nat.zero_add] at hq hl
  exact ⟨xs, q, .emp, run, hx, hl, hq⟩
theorem holds_is {n : Nat} {q : D} (hp : PenOk n q) (hn : n + 100 < 2 ^ 60) {k : Int} {bs ss : List Int} (p : Int × Int) (Q : List (Int × Int)) (hl : Q.length ≤ 8) (N : Int) (H : ∀ x : Int, 1 ≤ x → x < 2 ^ Q.length → f_law_meet [ruleD k bs ss, cells (cutR Q ([], [p], x)).1, cells (cutR Q ([], [p], x)).2.1, .int N] = .ok (.bl true) []) : ∃ q', f_law_holds_together [q, ruleD k bs ss, cells (p :: Q), .int N] = .ok (.bl true) [q'] ∧ PenOk (n + 30) q' := by
  obtain ⟨M, eM, hM, m1, m2, m6⟩ := shl_ex Q.length hl
  have hrg : rgOk 1 M = true := by unfold rgOk; exact decide_eq_true (by omega)
  have e1 := zjr hrg
  have hlen : (((cells (p :: Q)), (0 : Nat)).2 : Nat) = 0 := rfl
  -- the loop
  have loop : ∀ (xs : List Int) (q' : D) (Y : D), (∀ x ∈ xs, 1 ≤ x ∧ x < M) → ∃ s6 s7 s8, forRun (gSet 6) b_law_holds_together_1 (xs.map D.int) [.own q', .val (ruleD k bs ss), .val (cells (p :: Q)), .val (.int N), .val Y, .emp, .emp, .emp, .emp] = .nx [.own q', .val (ruleD k bs ss), .val (cells (p :: Q)), .val (.int N), .val Y, .emp, s6, s7, s8] := fun xs q' Y hx => by
    obtain ⟨ρ', e, s6, s7, s8, rfl⟩ := for_list (g := gSet 6) (body := b_law_holds_together_1) (e := D.int) (fun i ρ => ∃ s6 s7 s8, ρ = [.own q', .val (ruleD k bs ss), .val (cells (p :: Q)), .val (.int N), .val Y, .emp, s6, s7, s8]) (l := xs) (ρ := [.own q', .val (ruleD k bs ss), .val (cells (p :: Q)), .val (.int N), .val Y, .emp, .emp, .emp, .emp]) ⟨_, _, _, rfl⟩ (fun i x ρ hi hρ => by
      obtain ⟨s6, s7, s8, rfl⟩ := hρ
      refine ⟨_, rfl, ?_⟩
      obtain ⟨x1, x2⟩ := hx x (List.mem_of_getElem? hi)
      have ec := cut_is p Q (by omega) x
      have em := H x x1 (by rw [← hM]; exact x2)
      unfold b_law_holds_together_1
      generalize cells (cutR Q ([], [p], x)).1 = A at ec em
      generalize cells (cutR Q ([], [p], x)).2.1 = B at ec em
      generalize cells (p :: Q) = P at *
      generalize ruleD k bs ss = R at *
      simp! [ec, em]
      exact ⟨_, .inl rfl, _, _, _, rfl⟩)
    exact ⟨s6, s7, s8, e⟩
  have hlP : dLen [cells (p :: Q)] = some (.int ((Q.length : Int) + 1)) := by
    unfold cells
    simp! [List.length_map, List.length_cons, Int.natCast_add]
  have hsub : (Q.length : Int) + 1 - 1 = (Q.length : Int) := by omega
  have hY : (((rangeD 1 (M - 1).toNat).length : Nat) : Int) = M - 1 := by rw [rangeD_len]; omega
  unfold f_law_holds_together b_law_holds_together
  rw [draw_is]
  by_cases h6 : 6 < (Q.length : Int) + 1
  · obtain ⟨xs, q', s5, run, hx, hxl, hq'⟩ := ways_ex hp (by omega) (.val (ruleD k bs ss)) (.val (cells (p :: Q))) (.val (.int N)) M (by omega) m2 (rangeD 1 (M - 1).toNat) hY
    obtain ⟨s6, s7, s8, e⟩ := loop xs q' (.lst (xs.map D.int)) hx
    have hz : (xs.map D.int).length ≤ sizeLine := by rw [List.length_map]; exact szB (by omega)
    have hz2 : (rangeD 0 30).length ≤ sizeLine := by rw [rangeD_len]; exact szn (by decide)
    refine ⟨q', ?_, hq'⟩
    generalize cells (p :: Q) = P at *
    generalize ruleD k bs ss = R at *
    generalize rangeD 1 (M - 1).toNat = Y at *
    simp! [hlP, hsub, eM, e1, h6]
    have h30 : G.inR 30 = true := rfl
    have t30 : (30 : Int).toNat = 30 := rfl
    simp! [h30, t30, run, hz, hz2, e]
  · have hyw : rangeD 1 (M - 1).toNat = ((List.range (M - 1).toNat).map fun i : Nat => (1 : Int) + (i : Int)).map D.int := by unfold rangeD; rw [List.map_map]; rfl
    obtain ⟨s6, s7, s8, e⟩ := loop ((List.range (M - 1).toNat).map fun i : Nat => (1 : Int) + (i : Int)) q (.lst (rangeD 1 (M - 1).toNat)) (fun x hx => by
      obtain ⟨i, hi, rfl⟩ := List.mem_map.mp hx
      rw [List.mem_range] at hi
      omega)
    rw [← hyw] at e
    refine ⟨q, ?_, hp.mono (by omega)⟩
    generalize cells (p :: Q) = P at *
    generalize ruleD k bs ss = R at *
    simp! [hlP, hsub, eM, e1, h6]
    simp! [e]

def boxL (l t : Int) (w h : Nat) : List (Int × Int) := (ringL w h).map (sh (l, t))
theorem boxL_len (l t : Int) (w h : Nat) : (boxL l t w h).length = w * h := by unfold boxL; rw [List.length_map, ringL_len]
theorem mem_boxL {l t : Int} {w h : Nat} {p : Int × Int} (hp : (l ≤ p.1 ∧ p.1 < l + w) ∧ t ≤ p.2 ∧ p.2 < t + h) : p ∈ boxL l t w h := by
  unfold boxL
  refine List.mem_map.mpr ⟨(p.1 - l, p.2 - t), mem_ringL.mpr ⟨⟨?_, ?_⟩, ?_, ?_⟩, ?_⟩
  · simp only; omega
  · simp only; omega
  · simp only; omega
  · simp only; omega
  · unfold sh
    apply Prod.ext <;> (simp only; omega)
/-- a picture in a box of 10 and 7 and one cell more, n turns later -/
theorem num_ex {n : Nat} {p : D} (h : PenOk n p) (hn : n + 20 < 2 ^ 60) : ∃ (x : Int) (p' : D), f_law_number [p] = .ok (.int x) [p'] ∧ PenOk (n + 3) p' := by
  unfold f_law_number b_law_number
  rw [draw_is]
  obtain ⟨x1, p1, e1, a1, b1, h1⟩ := draw_ex h (by omega) (m := 12) (by decide) (by decide)
  by_cases hx : x1 < 9
  · obtain ⟨x2, p2, e2, _, _, h2⟩ := draw_ex h1 (by omega) (m := 9) (by decide) (by decide)
    simp! [e1, e2, hx]
    exact ⟨_, _, rfl, h2.mono (by omega)⟩
  · by_cases hy : x1 = 9
    · subst hy
      have c1 : CPow 10 9 := cpow10 ⟨by decide, by decide⟩
      have c2 : CPow 10 8 := cpow10 ⟨by decide, by decide⟩
      have m1 : CMulA 5 100000000 := CMulA.l _ ⟨by decide, by decide⟩
      obtain ⟨x2, p2, e2, _, _, h2⟩ := draw_ex h1 (by omega) (m := 1000000000) (by decide) (by decide)
      simp! [e1, e2, c1, c2, m1]
      exact ⟨_, _, rfl, h2.mono (by omega)⟩
    · have c1 : CPow 10 40 := cpow10 ⟨by decide, by decide⟩
      have c2 : CPow 10 60 := cpow10 ⟨by decide, by decide⟩
      obtain ⟨x2, p2, e2, _, _, h2⟩ := draw_ex h1 (by omega) (m := 3) (by decide) (by decide)
      obtain ⟨x3, p3, e3, a3, b3, h3⟩ := draw_ex h2 (by omega) (m := 2) (by decide) (by decide)
      have m1 : CMulA 2 x3 := CMulA.l _ ⟨by decide, by decide⟩
      have m2 : ∀ z : Int, CMulA z (1 - 2 * x3) := fun z => CMulA.r _ ⟨by omega, by omega⟩
      rcases (show x1 = 10 ∨ x1 = 11 by omega) with rfl | rfl
      · simp! [e1, e2, e3, c1, c2, m1, m2]
        exact ⟨_, _, rfl, h3.mono (by omega)⟩
      · simp! [e1, e2, e3, c1, c2, m1, m2]
        exact ⟨_, _, rfl, h3.mono (by omega)⟩
theorem drawF_ex {tt : XT} {S1 S2 S3 : Slot} (ht : ∀ (n : Nat) (q : D) (x : Int), PenOk n q → n < 2 ^ 60 → ∃ (b : Bool) (q' : D), tt [.own q, S1, S2, S3, .val (.int x)] = .ok b [.own q', S1, S2, S3, .val (.int x)] ∧ PenOk (n + 1) q') {n : Nat} {p : D} (hp : PenOk n p) (hn : n + 50 < 2 ^ 60) (lo : Int) (m : Nat) (hm : m ≤ 20) : ∃ (as : List Int) (q : D), lcRun (gSet 4) tt (xVar 4) [4] (rangeD lo m) [] [.own p, S1, S2, S3, .emp] = .ok (as.map D.int) [.own q, S1, S2, S3, .emp] ∧ as.Sublist (intsL lo m) ∧ PenOk (n + m) q := by
  obtain ⟨acc, ρ', run, q, as, rfl, rfl, hs, hq⟩ := lcRun_inv (g := gSet 4) (tt := tt) (te := (xVar 4)) (vs := [4]) (fun i acc ρ => ∃ (q : D) (as : List Int), ρ = [.own q, S1, S2, S3, .emp] ∧ acc = as.map D.int ∧ as.Sublist ((intsL lo m).take i) ∧ PenOk (n + i) q)
    (rangeD lo m) 0 [] [.own p, S1, S2, S3, .emp] ⟨p, [], rfl, rfl, List.nil_sublist _, hp⟩ (fun i d acc ρ hd hρ => by
      obtain ⟨hi, rfl⟩ := rangeD_get hd
      obtain ⟨q, as, rfl, rfl, hs, hq⟩ := hρ
      obtain ⟨b, q', e, hq'⟩ := ht _ q (lo + (i : Int)) hq (by omega)
      rw [Nat.zero_add] at hs
      have ht : (intsL lo m).take (0 + i + 1) = (intsL lo m).take i ++ [lo + (i : Int)] := by rw [Nat.zero_add]; exact intsL_take hi
      cases b with
      | true =>
        refine .inl ⟨.int (lo + (i : Int)), [.own q', S1, S2, S3, .emp], ?_, q', as ++ [lo + (i : Int)], rfl, by rw [List.map_append]; rfl, ?_, hq'⟩
        · simp! [e]
        · rw [ht]; exact hs.append (List.Sublist.refl _)
      | false =>
        refine .inr ⟨[.own q', S1, S2, S3, .emp], ?_, q', as, rfl, rfl, ?_, hq'⟩
        · simp! [e]
        · rw [ht]; exact hs.trans (List.sublist_append_left _ _))
  rw [rangeD_len, Nat.zero_add] at hq hs
  rw [List.take_of_length_le (by unfold intsL; rw [List.length_map, List.length_range]; exact Nat.le_refl _)] at hs
  exact ⟨as, q, run, hs, hq⟩
theorem tEq_ex (M c : Int) (hM : 0 < M ∧ M < 2 ^ 100) (S1 S2 S3 : Slot) (n : Nat) (q : D) (x : Int) (hq : PenOk n q) (hn : n < 2 ^ 60) : ∃ (b : Bool) (q' : D), xTest (xOp2 dEq (xCallB fDraw 0 (xCons (xC (.int M)) xNil)) (xC (.int c))) [.own q, S1, S2, S3, .val (.int x)] = .ok b [.own q', S1, S2, S3, .val (.int x)] ∧ PenOk (n + 1) q' := by
  obtain ⟨y, q', e, _, _, h'⟩ := draw_ex hq hn (m := M) hM.1 (by omega)
  refine ⟨decide (y = c), q', ?_, h'⟩
  simp! [e]
theorem tGt_ex (M c : Int) (hM : 0 < M ∧ M < 2 ^ 100) (S1 S2 S3 : Slot) (n : Nat) (q : D) (x : Int) (hq : PenOk n q) (hn : n < 2 ^ 60) : ∃ (b : Bool) (q' : D), xTest (xOp2 (dCmp fun i j => decide (j < i)) (xCallB fDraw 0 (xCons (xC (.int M)) xNil)) (xC (.int c))) [.own q, S1, S2, S3, .val (.int x)] = .ok b [.own q', S1, S2, S3, .val (.int x)] ∧ PenOk (n + 1) q' := by
  obtain ⟨y, q', e, _, _, h'⟩ := draw_ex hq hn (m := M) hM.1 (by omega)
  refine ⟨decide (c < y), q', ?_, h'⟩
  simp! [e]
theorem least_ex (k : Int) (hk : Kind k) (d : Int) (h0 : 0 ≤ d) (h1 : d < 2) : ∃ (row : List D) (w : Int), dDiv (.int k) (.int 2) = some (.int (k / 2)) ∧ atI [D.lst [.int 1, .int 2], .lst [.int 2, .int 2], .lst [.int 2, .int 3]] (k / 2 - 2) = some (.lst row) ∧ atI row d = some (.int w) ∧ 1 ≤ w ∧ w ≤ 3 := by
  have hd : d = 0 ∨ d = 1 := by omega
  rcases hk with rfl | rfl | rfl
  · rcases hd with rfl | rfl
    · exact ⟨_, 1, rfl, rfl, rfl, by decide, by decide⟩
    · exact ⟨_, 2, rfl, rfl, rfl, by decide, by decide⟩
  · rcases hd with rfl | rfl
    · exact ⟨_, 2, rfl, rfl, rfl, by decide, by decide⟩
    · exact ⟨_, 2, rfl, rfl, rfl, by decide, by decide⟩
  · rcases hd with rfl | rfl
    · exact ⟨_, 2, rfl, rfl, rfl, by decide, by decide⟩
    · exact ⟨_, 3, rfl, rfl, rfl, by decide, by decide⟩
theorem rule_ex {n : Nat} {p : D} (hp : PenOk n p) (hn : n + 100 < 2 ^ 60) : ∃ (k : Int) (bs ss : List Int) (p' : D), f_law_rule [p] = .ok (ruleD k bs ss) [p'] ∧ Kind k ∧ 0 ∉ bs ∧ bs.length ≤ 20 ∧ PenOk (n + 40) p' := by
  unfold f_law_rule b_law_rule
  rw [draw_is]
  obtain ⟨m, k, p1, e1, ek, hk, h1⟩ := kind_ix hp (by omega)
  have hk9 : 4 ≤ k ∧ k + 1 ≤ 9 := by rcases hk with rfl | rfl | rfl <;> omega
  have hbk : inR (k + 1) = true := inR_of (by omega)
  have hz2 : (rangeD 0 (k + 1).toNat).length ≤ sizeLine := by rw [rangeD_len]; exact szn (by omega)
  obtain ⟨y, p2, e2, _, _, h2⟩ := draw_ex h1 (by omega) (m := 2) (by decide) (by decide)
  by_cases hy : y = 0
  · subst hy
    obtain ⟨d, p3, e3, a3, b3, h3⟩ := draw_ex h2 (by omega) (m := 2) (by decide) (by decide)
    obtain ⟨row, w, q1, q2, q3, w1, w2⟩ := least_ex k hk d a3 b3
    have hbw : inR (w + 1) = true := inR_of (by omega)
    have hz1 : (rangeD (w + 1) (k + 1 - (w + 1)).toNat).length ≤ sizeLine := by rw [rangeD_len]; exact szn (by omega)
    obtain ⟨bs, p4, r1, s1, h4⟩ := drawF_ex (S1 := .val (.int k)) (S2 := .val (.int w)) (S3 := .emp) (tEq_ex 6 0 ⟨by decide, by decide⟩ _ _ _) h3 (by omega) (w + 1) (k + 1 - (w + 1)).toNat (by omega)
    have hz3 : 0 + 1 + (bs.map D.int).length ≤ sizeLine := by
      have := s1.length_le
      unfold intsL at this
      rw [List.length_map, List.length_range] at this
      rw [List.length_map]
      exact szn (by omega)
    obtain ⟨ss, p5, r2, s2, h5⟩ := drawF_ex (S1 := .val (.int k)) (S2 := .val (.int w)) (S3 := .val (.lst (D.int w :: bs.map D.int))) (tGt_ex 3 0 ⟨by decide, by decide⟩ _ _ _) h4 (by omega) 0 (k + 1).toNat (by omega)
    have hlen : bs.length ≤ 19 := by
      have := s1.length_le
      unfold intsL at this
      rw [List.length_map, List.length_range] at this
      omega
    refine ⟨k, w :: bs, ss, p5, ?_, hk, fun hb => ?_, by rw [List.length_cons]; omega, h5.mono (by omega)⟩
    · simp! [zaa] at hz3 r1 r2 ⊢
      simp! [Nat.zero_add, e1, ek, e2, e3, q1, q2, q3, hbk, hbw, hz1, hz2, r1, hz3, r2, ruleD, List.map_cons]
    · rcases List.mem_cons.mp hb with h | h
      · omega
      · have := intsL_mem (s1.subset h)
        omega
  · have hz1 : (rangeD 1 (k + 1 - 1).toNat).length ≤ sizeLine := by rw [rangeD_len]; exact szn (by omega)
    obtain ⟨bs, p4, r1, s1, h4⟩ := drawF_ex (S1 := .val (.int k)) (S2 := .emp) (S3 := .emp) (tEq_ex 2 1 ⟨by decide, by decide⟩ _ _ _) h2 (by omega) 1 (k + 1 - 1).toNat (by omega)
    obtain ⟨ss, p5, r2, s2, h5⟩ := drawF_ex (S1 := .val (.int k)) (S2 := .emp) (S3 := .val (.lst (bs.map D.int))) (tEq_ex 2 1 ⟨by decide, by decide⟩ _ _ _) h4 (by omega) 0 (k + 1).toNat (by omega)
    have hlen : bs.length ≤ 19 := by
      have := s1.length_le
      unfold intsL at this
      rw [List.length_map, List.length_range] at this
      omega
    refine ⟨k, bs, ss, p5, ?_, hk, fun hb => ?_, by omega, h5.mono (by omega)⟩
    · simp! [zaa] at r1 r2 ⊢
      simp! [e1, ek, e2, hy, hbk, hz1, hz2, r1, r2, ruleD]
    · have := intsL_mem (s1.subset hb)
      omega
theorem size6 (d : Int) (h0 : 0 ≤ d) (h1 : d < 6) : ∃ m : Nat, atI [D.int 2, .int 3, .int 1, .int 2, .int 3, .int 0] d = some (.int (m : Int)) ∧ m ≤ 3 := by
  rcases (show d = 0 ∨ d = 1 ∨ d = 2 ∨ d = 3 ∨ d = 4 ∨ d = 5 by omega) with rfl | rfl | rfl | rfl | rfl | rfl
  · exact ⟨2, rfl, by decide⟩
  · exact ⟨3, rfl, by decide⟩
  · exact ⟨1, rfl, by decide⟩
  · exact ⟨2, rfl, by decide⟩
  · exact ⟨3, rfl, by decide⟩
  · exact ⟨0, rfl, by decide⟩
def InB (l t : Int) (cs : List (Int × Int)) : Prop := ∀ c ∈ cs, (l ≤ c.1 ∧ c.1 < l + 10) ∧ t ≤ c.2 ∧ c.2 < t + 7
theorem cluster_ex {n : Nat} {p : D} (hp : PenOk n p) (hn : n + 100 < 2 ^ 60) {fx fy : Int} {cs : List (Int × Int)} (hb : InB fx fy cs) (hl : cs.length ≤ 100) (K : D) (s4 s5 s6 : Slot) : ∃ (p' : D) (cs' : List (Int × Int)) (s4' s5' s6' : Slot), b_law_picture_2 [.own p, .val (.tup [.int fx, .int fy]), .own (cells cs), .val K, s4, s5, s6] = .nx [.own p', .val (.tup [.int fx, .int fy]), .own (cells cs'), .val K, s4', s5', s6'] ∧ InB fx fy cs' ∧ cs'.length ≤ cs.length + 3 ∧ PenOk (n + 9) p' := by
  obtain ⟨u, p1, e1, a1, b1, h1⟩ := draw_ex hp (by omega) (m := 8) (by decide) (by decide)
  obtain ⟨v, p2, e2, a2, b2, h2⟩ := draw_ex h1 (by omega) (m := 5) (by decide) (by decide)
  obtain ⟨w, p3, e3, a3, b3, h3⟩ := draw_ex h2 (by omega) (m := 3) (by decide) (by decide)
  obtain ⟨ρ', e, q, cs', s6', rfl, hb', hl', hq⟩ := for_range_inv (g := gSet 6) (body := b_law_picture_1) (lo := 0) (n := (1 + w).toNat) (fun i ρ => ∃ (q : D) (cs' : List (Int × Int)) (s6' : Slot), ρ = [.own q, .val (.tup [.int fx, .int fy]), .own (cells cs'), .val K, .val (.int (fx + u)), .val (.int (fy + v)), s6'] ∧ InB fx fy cs' ∧ cs'.length ≤ cs.length + i ∧ PenOk (n + 3 + 2 * i) q)
    (ρ := [.own p3, .val (.tup [.int fx, .int fy]), .own (cells cs), .val K, .val (.int (fx + u)), .val (.int (fy + v)), s6]) ⟨p3, cs, s6, rfl, hb, Nat.le_refl _, h3⟩ (fun i ρ hi hρ => by
      obtain ⟨q, cs', s6', rfl, hb', hl', hq⟩ := hρ
      refine ⟨_, rfl, ?_⟩
      obtain ⟨x, q1, g1, c1, d1, k1⟩ := draw_ex hq (by omega) (m := 3) (by decide) (by decide)
      obtain ⟨y, q2, g2, c2, d2, k2⟩ := draw_ex k1 (by omega) (m := 3) (by decide) (by decide)
      have hz : (cs'.map cellP).length < sizeLine := by
        rw [List.length_map]
        exact szBl (by omega)
      have hx : (cs' ++ [(fx + u + x, fy + v + y)]).map cellP = cs'.map cellP ++ [.tup [.int (fx + u + x), .int (fy + v + y)]] := by
        rw [List.map_append]
        rfl
      refine ⟨_, .inl ?_, q2, cs' ++ [(fx + u + x, fy + v + y)], .val (.int (0 + (i : Int))), rfl, ?_, ?_, k2.mono (by omega)⟩
      · unfold b_law_picture_1
        rw [draw_is]
        simp! [cells, g1, g2, hz, hx]
      · intro c hc
        rcases List.mem_append.mp hc with h | h
        · exact hb' c h
        · rw [List.mem_singleton.mp h]
          simp only
          omega
      · rw [List.length_append, List.length_cons, List.length_nil]
        omega)
  have hr : inR (1 + w) = true := inR_of (by omega)
  refine ⟨q, cs', .val (.int (fx + u)), .val (.int (fy + v)), s6', ?_, hb', by omega, hq.mono (by omega)⟩
  unfold b_law_picture_2
  rw [draw_is]
  simp! [e1, e2, e3, hr, e]
noncomputable def bPicRest : XS := (xSeq (xSetO 2 (xOpL dLst xNil))
    (xSeq (xFor (xItR1 (xOp2 dIx (xOpL dLst (xCons (xC (.int 2)) (xCons (xC (.int 3)) (xCons (xC (.int 1)) (xCons (xC (.int 2)) (xCons (xC (.int 3)) (xCons (xC (.int 0)) xNil))))))) (xCallB fDraw 0 (xCons (xC (.int 6)) xNil)))) (gSet 3) b_law_picture_2)
    (xRet (xOp1 dSSG (xTake 2)))))
noncomputable def bPicAll : XS := (xSeq (xSet 1 (xOpL dTup (xCons (xC (.int 0)) (xCons (xC (.int 0)) xNil))))
    (xSeq (xIfS (xTest (xOp2 dEq (xCallB fDraw 0 (xCons (xC (.int 6)) xNil)) (xC (.int 0))))
    (xSet 1 (xOpL dTup (xCons (xCallB f_law_number 0 xNil) (xCons (xCallB f_law_number 0 xNil) xNil))))
    xNext) bPicRest))
theorem pic_all : f_law_picture = runB [] 7 true bPicAll := rfl
theorem dLst_6 (a b c d e f : D) : dLst [a, b, c, d, e, f] = some (.lst [a, b, c, d, e, f]) := dLst_ap (szn (show 6 ≤ 1000 by decide))
theorem rest_ex {n : Nat} {p : D} (h1 : PenOk n p) (hn : n + 200 < 2 ^ 60) (fx fy : Int) : ∃ (live : List (Int × Int)) (p' : D) (s2 s3 s4 s5 s6 : Slot), bPicRest [.own p, .val (.tup [.int fx, .int fy]), .emp, .emp, .emp, .emp, .emp] = .ret (cells live) [.own p', .val (.tup [.int fx, .int fy]), s2, s3, s4, s5, s6] ∧ Pic live ∧ InB fx fy live ∧ live.length ≤ 9 ∧ PenOk (n + 30) p' := by
  obtain ⟨d, p2, e2, a2, b2, h2⟩ := draw_ex h1 (by omega) (m := 6) (by decide) (by decide)
  obtain ⟨m, em, hm⟩ := size6 d a2 b2
  obtain ⟨ρ', e, q, cs, s3, s4, s5, s6, rfl, hb, hl, hq⟩ := for_range_inv (g := gSet 3) (body := b_law_picture_2) (lo := 0) (n := m) (fun i ρ => ∃ (q : D) (cs : List (Int × Int)) (s3 s4 s5 s6 : Slot), ρ = [.own q, .val (.tup [.int fx, .int fy]), .own (cells cs), s3, s4, s5, s6] ∧ InB fx fy cs ∧ cs.length ≤ 3 * i ∧ PenOk (n + 1 + 9 * i) q)
    (ρ := [.own p2, .val (.tup [.int fx, .int fy]), .own (.lst []), .emp, .emp, .emp, .emp]) ⟨p2, [], _, _, _, _, rfl, fun c h => absurd h (List.not_mem_nil), Nat.le_refl _, h2⟩ (fun i ρ hi hρ => by
      obtain ⟨q, cs, s3, s4, s5, s6, rfl, hb, hl, hq⟩ := hρ
      refine ⟨_, rfl, ?_⟩
      obtain ⟨q', cs', s4', s5', s6', ec, hb', hl', hq'⟩ := cluster_ex hq (by omega) hb (by omega) (.int (0 + (i : Int))) s4 s5 s6
      exact ⟨_, .inl ec, q', cs', _, s4', s5', s6', rfl, hb', by omega, hq'.mono (by omega)⟩)
  obtain ⟨M, hM⟩ : ∃ M : Int, (m : Int) = M := ⟨_, rfl⟩
  have hr : inR M = true := by rw [← hM]; exact inR_of (by omega)
  have hT : M.toNat = m := by omega
  rw [hM] at em
  have hs : dSSG (.lst (cs.map cellP)) = some (.lst ((ddS cs).map cellP)) := dSSG_cells cs (by unfold manyS; omega)
  refine ⟨ddS cs, q, .emp, s3, s4, s5, s6, ?_, ddS_pic cs, fun c hc => hb c (mem_ddS.mp hc), ?_, hq.mono (by omega)⟩
  · unfold bPicRest
    simp! [cells] at e ⊢
    simp! [dLst_6, e2, em, hr, hT, e, hs]
  · have := dd_le cs
    unfold ddS
    rw [sortE_length]
    omega
theorem picture_ex {n : Nat} {p : D} (hp : PenOk n p) (hn : n + 300 < 2 ^ 60) : ∃ (l t : Int) (live : List (Int × Int)) (p' : D), f_law_picture [p] = .ok (cells live) [p'] ∧ Pic live ∧ InB l t live ∧ live.length ≤ 9 ∧ PenOk (n + 40) p' := by
  rw [pic_all]
  unfold bPicAll
  obtain ⟨d, p1, e1, a1, b1, h1⟩ := draw_ex hp (by omega) (m := 6) (by decide) (by decide)
  by_cases hd : d = 0
  · obtain ⟨x, p2, e2, h2⟩ := num_ex h1 (by omega)
    obtain ⟨y, p3, e3, h3⟩ := num_ex h2 (by omega)
    obtain ⟨live, p', s2, s3, s4, s5, s6, e, hP, hB, hL, h'⟩ := rest_ex h3 (by omega) x y
    refine ⟨x, y, live, p', ?_, hP, hB, hL, h'.mono (by omega)⟩
    simp! [e1, hd, e2, e3, e]
  · obtain ⟨live, p', s2, s3, s4, s5, s6, e, hP, hB, hL, h'⟩ := rest_ex h1 (by omega) 0 0
    refine ⟨0, 0, live, p', ?_, hP, hB, hL, h'.mono (by omega)⟩
    simp! [e1, hd, e]

def InN (l t : Int) (n : Nat) (live : List (Int × Int)) : Prop := ∀ p ∈ live, (l - n ≤ p.1 ∧ p.1 < l - n + (10 + 2 * n : Nat)) ∧ t - n ≤ p.2 ∧ p.2 < t - n + (7 + 2 * n : Nat)
theorem InN.imgs {l t : Int} {n : Nat} {live : List (Int × Int)} (b : InN l t n live) (k : Int) : InN l t (n + 1) (imgs9 k live) := fun q hq => by
  unfold imgs9 at hq
  obtain ⟨p, hp, hq⟩ := List.mem_flatMap.mp hq
  obtain ⟨d, hd, rfl⟩ := List.mem_map.mp hq
  have hs := n9_small hd
  have hb := b p hp
  unfold sh
  simp only
  omega
theorem InN.cov {l t : Int} {n : Nat} {live : List (Int × Int)} (b : InN l t n live) : Cov ((10 + 2 * n) * (7 + 2 * n)) live :=
  ⟨boxL (l - n) (t - n) (10 + 2 * n) (7 + 2 * n), by rw [boxL_len]; exact Nat.le_refl _, fun p hp => mem_boxL (b p hp)⟩
theorem inN_after {k : Int} (hk : Kind k) {bs : List Int} (hq : 0 ∉ bs) (ss : List Int) {l t : Int} {live : List (Int × Int)} (b : InN l t 0 live) (n : Nat) : InN l t n (afterP k bs ss live n) := by
  induction n with
  | zero => exact b
  | succ n ih => exact fun p hp => ih.imgs k p (next9 hk hq ss _ ((mem_nextP hq ss _ p).mp hp))
theorem inN_of {l t : Int} {cs : List (Int × Int)} (h : InB l t cs) : InN l t 0 cs := fun p hp => by
  have := h p hp
  omega
theorem Cov.up {m n : Nat} {l : List (Int × Int)} (h : Cov m l) (e : m ≤ n) : Cov n l := by
  obtain ⟨B, hB, h⟩ := h
  exact ⟨B, by omega, h⟩
theorem inN_sm {k : Int} (hk : Kind k) {bs : List Int} (hq : 0 ∉ bs) (ss : List Int) {l t : Int} {live : List (Int × Int)} (b : InN l t 0 live) (hP : Pic live) (i : Nat) (hi : i ≤ 5) : Cov 418 (imgs9 k (afterP k bs ss live i)) ∧ (afterP k bs ss live i).length ≤ 440 := by
  have h := inN_after hk hq ss b i
  have up : ∀ n, n ≤ 6 → (10 + 2 * n) * (7 + 2 * n) ≤ 418 := by decide
  exact ⟨(h.imgs k).cov.up (up (i + 1) (by omega)), Nat.le_trans (h.cov.len (afterP_pic hP i).nodup) (Nat.le_trans (up i (by omega)) (by decide))⟩
theorem long_ex {n : Nat} {p : D} (hp : PenOk n p) (hn : n + 100 < 2 ^ 60) {k : Int} (hk : Kind k) {bs : List Int} (hq : 0 ∉ bs) (ss : List Int) (live : List (Int × Int)) (a : Int) (a1 : 0 ≤ a) (a2 : a ≤ 6) : ∃ (N : Nat) (p' : D), f_law_long [p, ruleD k bs ss, cells live, .int a] = .ok (.int (N : Int)) [p'] ∧ N ≤ 30 ∧ (N ≤ 6 ∨ ∀ t, t < N → (afterP k bs ss live t).length < 9) ∧ PenOk (n + 2) p' := by
  obtain ⟨y, p1, e1, _, _, h1⟩ := draw_ex hp (by omega) (m := 4) (by decide) (by decide)
  obtain ⟨an, ean⟩ := Int.eq_ofNat_of_zero_le a1
  by_cases hy : 0 < y
  · refine ⟨an, p1, ?_, by omega, .inl (by omega), h1.mono (by omega)⟩
    unfold f_law_long b_law_long
    rw [draw_is, ← ean]
    generalize cells live = X
    generalize ruleD k bs ss = R
    simp! [e1, hy]
  obtain ⟨j, ρ', _, hj, ⟨g1, g2⟩, ew⟩ := while_inv (t := (xAnd (xTest (xOp2 dLt (xVar 4) (xC (.int 30)))) (xTest (xOp2 dLt (xOpL dLen (xCons (xVar 5) xNil)) (xC (.int 9)))))) (p := b_law_long_1)
    (fun i ρ => ρ = [.own p1, .val (ruleD k bs ss), .val (cells live), .val (.int a), .val (.int (i : Int)), .val (cells (afterP k bs ss live i))] ∧ ∀ t, t < i → (afterP k bs ss live t).length < 9)
    (fun i ρ => ρ = [.own p1, .val (ruleD k bs ss), .val (cells live), .val (.int a), .val (.int (i : Int)), .val (cells (afterP k bs ss live i))] ∧ ∀ t, t < i → (afterP k bs ss live t).length < 9) 30 (fun i ρ hi hI => by
      obtain ⟨rfl, hI⟩ := hI
      have hc := after_succ k bs ss live i
      by_cases c1 : i < 30
      rotate_left
      · refine .inl ⟨_, ?_, rfl, hI⟩
        have d1 : ¬ (i : Int) < 30 := by omega
        simp! [d1]
      by_cases c2 : (afterP k bs ss live i).length < 9
      rotate_left
      · refine .inl ⟨_, ?_, rfl, hI⟩
        have d1 : (i : Int) < 30 := by omega
        have d2 : ¬ (((afterP k bs ss live i).length : Nat) : Int) < 9 := by omega
        simp! [d1, cells, List.length_map, d2]
      have d1 : (i : Int) < 30 := by omega
      have d2 : (((afterP k bs ss live i).length : Nat) : Int) < 9 := by omega
      have en := law_next_is hk hq ss (afterP k bs ss live i) (by omega)
      rw [← hc] at en
      have body : b_law_long_1 [.own p1, .val (ruleD k bs ss), .val (cells live), .val (.int a), .val (.int (i : Int)), .val (cells (afterP k bs ss live i))] = .nx [.own p1, .val (ruleD k bs ss), .val (cells live), .val (.int a), .val (.int ((i + 1 : Nat) : Int)), .val (cells (afterP k bs ss live (i + 1)))] := by
        unfold b_law_long_1
        simp! [en, Int.natCast_add]
      have hI2 : ∀ t, t < i + 1 → (afterP k bs ss live t).length < 9 := fun t ht => by
        by_cases e : t = i
        · rw [e]; exact c2
        · exact hI t (by omega)
      refine .inr ⟨c1, _, ?_, _, .inl body, rfl, hI2⟩
      simp! [d1, cells, List.length_map, d2]) 1000 0 [.own p1, .val (ruleD k bs ss), .val (cells live), .val (.int a), .val (.int 0), .val (cells live)] (by omega) (by omega) ⟨rfl, fun t ht => absurd ht (Nat.not_lt_zero t)⟩
  subst g1
  have hmx : ∃ N : Nat, mx a (j : Int) = (N : Int) ∧ N ≤ 30 ∧ (N ≤ 6 ∨ ∀ t, t < N → (afterP k bs ss live t).length < 9) := by
    unfold mx
    split
    · exact ⟨j, rfl, hj, .inr g2⟩
    · exact ⟨an, ean, by omega, .inl (by omega)⟩
  obtain ⟨N, eN, n1, n2⟩ := hmx
  refine ⟨N, p1, ?_, n1, n2, h1.mono (by omega)⟩
  unfold f_law_long b_law_long
  rw [draw_is]
  generalize cells live = X at *
  generalize ruleD k bs ss = R at *
  simp! [e1, hy, ew, eN]

theorem together_is (gs : List (List (Int × Int))) (h : gs.flatten.length ≤ 4000) : f_law_together [.lst (gs.map cells)] = .ok (cells (sortE gs.flatten)) [] := by
  obtain ⟨ρ', e, s2, rfl⟩ := for_list (g := gSet 2) (body := b_law_together_1) (e := cells) (fun i ρ => ∃ s2, ρ = [.val (.lst (gs.map cells)), .val (cells (gs.take i).flatten), s2]) (l := gs) (ρ := [.val (.lst (gs.map cells)), .val (.lst []), .emp]) ⟨_, rfl⟩ (fun i p ρ hi hρ => by
    obtain ⟨s2, rfl⟩ := hρ
    refine ⟨_, rfl, ?_⟩
    have hx : (gs.take (i + 1)).flatten = (gs.take i).flatten ++ p := by
      rw [take_snoc hi, List.flatten_append]
      simp
    have hs : (gs.take (i + 1)).flatten.length ≤ 4000 := by
      have h2 : gs.flatten = (gs.take (i + 1)).flatten ++ (gs.drop (i + 1)).flatten := by rw [← List.flatten_append, List.take_append_drop]
      rw [h2, List.length_append] at h
      omega
    rw [hx, List.length_append] at hs
    have hz : ((gs.take i).flatten.map cellP).length + (p.map cellP).length ≤ sizeLine := by
      rw [List.length_map, List.length_map]
      exact szB (by omega)
    have ha : cells (gs.take (i + 1)).flatten = .lst ((gs.take i).flatten.map cellP ++ p.map cellP) := by
      rw [hx]
      unfold cells
      rw [List.map_append]
    rw [ha]
    unfold b_law_together_1
    simp! [cells, hz]
    exact ⟨_, .inl rfl, _, rfl⟩)
  rw [List.take_length] at e
  unfold f_law_together b_law_together
  have hs := sorted_cells gs.flatten
  simp! [cells] at e hs ⊢
  simp! [e, hs]
theorem nodup_at {α : Type} {W : List α} (h : W.Nodup) {i j : Nat} {w : α} (hi : W[i]? = some w) (hj : W[j]? = some w) : i = j := by
  obtain ⟨h1, e1⟩ := List.getElem?_eq_some_iff.mp hi
  obtain ⟨h2, e2⟩ := List.getElem?_eq_some_iff.mp hj
  have hp := List.pairwise_iff_getElem.mp h
  rcases Nat.lt_trichotomy i j with z | z | z
  · exact absurd (e1.trans e2.symm) (hp i j h1 h2 z)
  · exact z
  · exact absurd (e2.trans e1.symm) (hp j i h2 h1 z)
/-- what is asked of the parts: none can be cut so that its halves do not meet -/
theorem part_holds {k : Int} (hk : Kind k) {bs : List Int} (hq : 0 ∉ bs) (ss : List Int) {live : List (Int × Int)} (hP : Pic live) (hl : live.length ≤ 9) (N : Nat) {n : Int} (eN : (N : Int) = n) (hN : N ≤ 30) (hM : ∀ t, t < N → (afterP k bs ss live t).length ≤ 440) {w : Int} (hne : cellsW (gRunN k bs ss live N).1 w ≠ []) : ∃ p Q, cellsW (gRunN k bs ss live N).1 w = p :: Q ∧ Q.length ≤ 8 ∧ ∀ x : Int, 1 ≤ x → x < 2 ^ Q.length → f_law_meet [ruleD k bs ss, cells (cutR Q ([], [p], x)).1, cells (cutR Q ([], [p], x)).2.1, .int n] = .ok (.bl true) [] := by
  obtain ⟨_, hU⟩ := inv_run hk hq ss live N
  obtain ⟨h0, _, _⟩ := gRun_keys (k := k) (bs := bs) ss hP N
  have cm := fun (A B : List (Int × Int)) h1 h2 h3 h4 a b ha hb => cut_meets hk hq ss hP N (w := w) (A := A) (B := B) h1 h2 h3 h4 (a := a) (b := b) ha hb
  generalize gRunN k bs ss live N = u at hne hU h0 cm ⊢
  have hn : (u.1.map (·.1)).Nodup := by rw [h0]; exact hP.nodup
  have hpic := cellsW_pic hn w
  have hlen : (cellsW u.1 w).length ≤ 9 := by
    have h1 : (keysL u.1).length = live.length := by unfold keysL; rw [sortE_length, h0]
    have h2 : (cellsW u.1 w).length ≤ (keysL u.1).length := List.length_filter_le _ _
    omega
  have hmem : ∀ c, lkA u.1 c = some w ↔ c ∈ cellsW u.1 w := fun c => mem_cellsW.symm
  generalize cellsW u.1 w = P at hne hpic hlen hmem
  cases P with
  | nil => exact absurd rfl hne
  | cons p Q =>
    refine ⟨p, Q, rfl, by rw [List.length_cons] at hlen; omega, fun x x1 x2 => ?_⟩
    obtain ⟨A, B, b1, b2, b3, b4, b5, b6, b7⟩ := cutR_ok Q ([], [p], x)
    rw [List.nil_append] at b1
    have b2 : (cutR Q ([], [p], x)).2.1 = p :: B := b2
    have hnp := List.nodup_cons.mp hpic.nodup
    have pA : Pic A := hpic.sub (b3.cons p)
    have pB : Pic (p :: B) := hpic.sub (b4.cons₂ p)
    have hAB : ∀ c, lkA u.1 c = some w ↔ c ∈ A ∨ c ∈ p :: B := fun c => by
      rw [hmem, List.mem_cons, List.mem_cons, b5 c]
      exact ⟨fun z => z.elim (fun z => .inr (.inl z)) fun z => z.elim .inl fun z => .inr (.inr z), fun z => z.elim (fun z => .inr (.inl z)) fun z => z.elim .inl fun z => .inr (.inr z)⟩
    have hd : ∀ c ∈ A, c ∉ p :: B := fun c hc z => by
      rcases List.mem_cons.mp z with e | z
      · subst e; exact hnp.1 (b3.subset hc)
      · exact b6 hnp.2 c hc z
    have hAne : A ≠ [] := fun z => by
      have := b7 z (show (0 : Int) ≤ x by omega) x2
      have : x = 0 := this
      omega
    obtain ⟨a, ha⟩ := List.exists_mem_of_ne_nil _ hAne
    rw [b1, b2]
    refine meet_yes hk hq ss A (p :: B) N eN (by omega) (fun i hi no => ?_) (cm A (p :: B) pA pB hAB hd a p ha List.mem_cons_self)
    have r := cut_run hk hq ss hn hU pA pB hAB hd i (by omega) no
    have hl2 := relC_len r
    rw [(gIt_keys (k := k) (bs := bs) ss hP h0 i).2] at hl2
    have := hM i hi
    omega
theorem parts_part {k : Int} (hk : Kind k) {bs : List Int} (hq : 0 ∉ bs) (ss : List Int) {live : List (Int × Int)} (hP : Pic live) (N : Nat) {n : Int} (eN : (N : Int) = n) (hN : N ≤ 30) (hM : ∀ t, t < N → (afterP k bs ss live t).length ≤ 440) {w v : Int} (hne : w ≠ v) : f_law_meet [ruleD k bs ss, cells (cellsW (gRunN k bs ss live N).1 w), cells (cellsW (gRunN k bs ss live N).1 v), .int n] = .ok (.bl false) [] := by
  obtain ⟨_, hU⟩ := inv_run hk hq ss live N
  obtain ⟨h0, _, _⟩ := gRun_keys (k := k) (bs := bs) ss hP N
  generalize gRunN k bs ss live N = u at hU h0 ⊢
  have len : ∀ x i, i < N → (afterP k bs ss (cellsW u.1 x) i).length ≤ 1600 := fun x i hi => by
    rw [after_cells hk hq ss x i fun j hj => hU j (by omega)]
    have h2 : (cellsW (gIt k bs ss u.1 i) x).length ≤ (keysL (gIt k bs ss u.1 i)).length := List.length_filter_le _ _
    rw [(gIt_keys (k := k) (bs := bs) ss hP h0 i).2] at h2
    have := hM i hi
    omega
  refine meet_no hk hq ss _ _ N eN (by omega) (fun i hi _ => ⟨len w i hi, len v i hi⟩) fun t ht => ?_
  rw [after_cells hk hq ss w t fun j hj => hU j (by omega), after_cells hk hq ss v t fun j hj => hU j (by omega)]
  exact parts_apart (hU t ht) hne
theorem main (ns : List Int) (hl : ns.length ≤ 63) : f_law [.fix (ns.map D.int)] = .ok (.bl true) [] := by
  unfold f_law b_law
  obtain ⟨N, hN, n0, n1⟩ : ∃ N : Int, mx 2 (mn 4 (((ns.map D.int).length : Nat) : Int)) = N ∧ 2 ≤ N ∧ N ≤ 4 := ⟨_, rfl, by unfold mx mn; split <;> split <;> omega, by unfold mx mn; split <;> split <;> omega⟩
  obtain ⟨ρ', e, s1, s2, s3, s4, s5, s6, s7, rfl⟩ := for_range_inv (g := gSet 1) (body := b_law_2) (lo := 0) (n := N.toNat)
    (fun i ρ => ∃ s1 s2 s3 s4 s5 s6 s7, ρ = [.val (.fix (ns.map D.int)), s1, s2, s3, s4, s5, s6, s7]) (ρ := [.val (.fix (ns.map D.int)), .emp, .emp, .emp, .emp, .emp, .emp, .emp]) ⟨_, _, _, _, _, _, _, rfl⟩ (fun i ρ hi hρ => by
      obtain ⟨s1, s2, s3, s4, s5, s6, s7, rfl⟩ := hρ
      refine ⟨_, rfl, ?_⟩
      rw [Int.zero_add]
      obtain ⟨p, hp, hp1⟩ := pen_ex ns i
      obtain ⟨k, bs, ss, p1, e1, hk, hq, hbl, h1⟩ := rule_ex hp1 (by decide)
      obtain ⟨l, t, live, p2, e2, hP, hB, hl2, h2⟩ := picture_ex h1 (by decide)
      obtain ⟨a, p3, e3, a1, a2, h3⟩ := draw_ex h2 (by decide) (m := 7) (by decide) (by decide)
      obtain ⟨M, p4, e4, hM, hs, h4⟩ := long_ex h3 (by decide) hk hq ss live a a1 (by omega)
      obtain ⟨m, hm⟩ : ∃ m : Int, (M : Int) = m := ⟨_, rfl⟩
      rw [hm] at e4
      have hb2 := inN_of hB
      have h440 : ∀ t, t < M → (afterP k bs ss live t).length ≤ 440 := fun t ht => by
        rcases hs with h | h
        · exact (inN_sm hk hq ss hb2 hP t (by omega)).2
        · have := h t ht
          omega
      have e5 : f_parts [ruleD k bs ss, cells live, .int m] = .ok (.tup [.lst ((partsL (gRunN k bs ss live M).1).map cells), .lst ((gRunN k bs ss live M).2.2.map jD)]) [] := by
        rcases hs with h | h
        · exact parts_of hk hq ss hP (by omega) M hm (by omega) (M := 418) (fun t ht => inN_sm hk hq ss hb2 hP t (by omega)) (by decide) (by omega)
        · refine parts_of hk hq ss hP (by omega) M hm (by omega) (M := 81) (fun t ht => ?_) (by decide) (by omega)
          have h1 := h t ht
          have h2 := imgs9_len k (afterP k bs ss live t)
          exact ⟨⟨_, by omega, fun p hp => hp⟩, by omega⟩
      obtain ⟨k1, _, _⟩ := gRun_keys (k := k) (bs := bs) ss hP M
      obtain ⟨W, w1, w2, w3, w4, w5⟩ := parts_form (gRunN k bs ss live M).1
      have hH := fun w hw => part_holds hk hq ss hP hl2 M hm hM h440 (w := w) (w3 w hw)
      have hA := fun w v hne => parts_part hk hq ss hP M hm hM h440 (w := w) (v := v) hne
      rw [w1] at e5
      generalize gRunN k bs ss live M = u at e5 k1 w2 w3 w4 w5 hH hA
      have hn : (u.1.map (·.1)).Nodup := by rw [k1]; exact hP.nodup
      have hkl : keysL u.1 = live := by unfold keysL; rw [k1]; exact hP.sort
      have lu : u.1.length = live.length := by rw [← k1, List.length_map]
      have fl := flat_len hn w2 w4
      have ft := together_is (W.map (cellsW u.1)) (by rw [fl, hkl]; omega)
      rw [flat_is hn w2 w4, hkl] at ft
      have e6 : eqD (cells live) (cells live) = some true := by
        unfold cells
        rw [eq_cells, decide_eq_true rfl]
      have e7 : inD (.lst []) (.lst ((W.map (cellsW u.1)).map cells)) = some false := by
        have := inD_enc (α := List (Int × Int)) (by decide) [] (W.map (cellsW u.1))
        rw [decide_eq_false (fun z => by
          obtain ⟨w, hw, e⟩ := List.mem_map.mp z
          exact w3 w hw e)] at this
        exact this
      have hz : (live.map cellP).length ≤ sizeLine := by rw [List.length_map]; exact szB (by omega)
      have e8 : dList [cells live] = some (cells live) := by
        unfold cells
        simp! [hz]
      have hlen : ((W.map (cellsW u.1)).map cells).length = W.length := by rw [List.length_map, List.length_map]
      -- the loop over the parts
      obtain ⟨ρ', e9, q, s7', hq', rfl⟩ := for_range_inv (g := gSet 7) (body := b_law_1) (lo := 0) (n := W.length)
        (fun j ρ => ∃ q s7, PenOk (2000 + 30 * j) q ∧ ρ = [.val (.fix (ns.map D.int)), .val (.int (i : Int)), .own q, .val (ruleD k bs ss), .val (cells live), .val (.int m), .val (.lst ((W.map (cellsW u.1)).map cells)), s7]) (ρ := [.val (.fix (ns.map D.int)), .val (.int (i : Int)), .own p4, .val (ruleD k bs ss), .val (cells live), .val (.int m), .val (.lst ((W.map (cellsW u.1)).map cells)), s7]) ⟨_, _, h4.mono (by decide), rfl⟩ (fun j ρ hj hρ => by
          obtain ⟨q, s7, hq, rfl⟩ := hρ
          refine ⟨_, rfl, ?_⟩
          rw [Int.zero_add]
          have hw := List.getElem?_eq_getElem hj
          generalize W[j] = w at hw
          obtain ⟨c, Q, eP, lQ, H⟩ := hH w (List.mem_of_getElem? hw)
          obtain ⟨q', eh, hq2⟩ := holds_is hq (by omega) c Q lQ m H
          rw [← eP] at eh
          have at1 : atI ((W.map (cellsW u.1)).map cells) (j : Int) = some (cells (cellsW u.1 w)) := atI_at cells (by rw [List.getElem?_map, hw]; rfl)
          by_cases h0 : j = 0
          · refine ⟨_, .inl ?_, q', .val (.int (j : Int)), hq2.mono (by omega), rfl⟩
            have d0 : ¬ (0 : Int) < (j : Int) := by omega
            obtain ⟨J, hJ⟩ : ∃ J : Int, (j : Int) = J := ⟨_, rfl⟩
            rw [hJ] at at1 d0 ⊢
            unfold b_law_1
            generalize cells live = X at *
            generalize ruleD k bs ss = R at *
            generalize (W.map (cellsW u.1)).map cells = Y at *
            generalize cells (cellsW u.1 w) = C1 at *
            simp! [at1, eh, d0]
          · have hj2 : j - 1 < W.length := by omega
            have hv := List.getElem?_eq_getElem hj2
            generalize W[j - 1] = v at hv
            have hne : v ≠ w := fun z => by
              subst z
              have := nodup_at w2 hw hv
              omega
            have em := hA v w hne
            have at2 : atI ((W.map (cellsW u.1)).map cells) ((j : Int) - 1) = some (cells (cellsW u.1 v)) := by
              rw [show (j : Int) - 1 = ((j - 1 : Nat) : Int) by omega]
              exact atI_at cells (by rw [List.getElem?_map, hv]; rfl)
            refine ⟨_, .inl ?_, q', .val (.int (j : Int)), hq2.mono (by omega), rfl⟩
            have d0 : (0 : Int) < (j : Int) := by omega
            obtain ⟨J, hJ⟩ : ∃ J : Int, (j : Int) = J := ⟨_, rfl⟩
            rw [hJ] at at1 at2 d0 ⊢
            unfold b_law_1
            generalize cells live = X at *
            generalize ruleD k bs ss = R at *
            generalize (W.map (cellsW u.1)).map cells = Y at *
            generalize cells (cellsW u.1 w) = C1 at *
            generalize cells (cellsW u.1 v) = C2 at *
            simp! [at1, at2, eh, d0, em])
      have hrW : G.inR ((W.length : Nat) : Int) = true := inR_of (by omega)
      unfold b_law_2
      rw [pen_is, draw_is]
      generalize cells live = X at *
      generalize ruleD k bs ss = R at *
      generalize (W.map (cellsW u.1)).map cells = Y at *
      simp! [hp, e1, e2, e3, e4, e5, e8, ft, e6, e7, hlen, hrW, Int.toNat_natCast, e9, Option.map_some, Bool.not_true]
      exact ⟨_, .inl rfl, _, _, _, _, _, _, _, rfl⟩)
  have hr : inR N = true := inR_of (by omega)
  simp! [hN, hr, e]


theorem all_mk {l : PySem.W.OpenLaw} {w : World} {K : PySem.W.Frag} {h : Heap} {mg : Str → Option Value} {fa : Addr} (X : K.In h) (G : h.Ns mainGlobals mg) (hfa : mg "law" = some (.ref fa))
    {f0 : Addr} {od0 an0 : Option Addr} {sl0 : Array (Option Value)} {oc0 kV0 dc0 pm0 cd0 ct0 : Value}
    {f1 : Addr} {od1 an1 : Option Addr} {sl1 : Array (Option Value)} {oc1 kV1 dc1 pm1 cd1 ct1 : Value}
    {f2 : Addr} {od2 an2 : Option Addr} {sl2 : Array (Option Value)} {oc2 kV2 dc2 pm2 cd2 ct2 : Value}
    {f3 : Addr} {od3 an3 : Option Addr} {sl3 : Array (Option Value)} {oc3 kV3 dc3 pm3 cd3 ct3 : Value}
    {f4 : Addr} {od4 an4 : Option Addr} {sl4 : Array (Option Value)} {oc4 kV4 dc4 pm4 cd4 ct4 : Value}
    {f5 : Addr} {od5 an5 : Option Addr} {sl5 : Array (Option Value)} {oc5 kV5 dc5 pm5 cd5 ct5 : Value}
    {f6 : Addr} {od6 an6 : Option Addr} {sl6 : Array (Option Value)} {oc6 kV6 dc6 pm6 cd6 ct6 : Value}
    {f7 : Addr} {od7 an7 : Option Addr} {sl7 : Array (Option Value)} {oc7 kV7 dc7 pm7 cd7 ct7 : Value}
    {f8 : Addr} {od8 an8 : Option Addr} {sl8 : Array (Option Value)} {oc8 kV8 dc8 pm8 cd8 ct8 : Value}
    {f9 : Addr} {od9 an9 : Option Addr} {sl9 : Array (Option Value)} {oc9 kV9 dc9 pm9 cd9 ct9 : Value}
    {f10 : Addr} {od10 an10 : Option Addr} {sl10 : Array (Option Value)} {oc10 kV10 dc10 pm10 cd10 ct10 : Value}
    {f11 : Addr} {od11 an11 : Option Addr} {sl11 : Array (Option Value)} {oc11 kV11 dc11 pm11 cd11 ct11 : Value}
    {f12 : Addr} {od12 an12 : Option Addr} {sl12 : Array (Option Value)} {oc12 kV12 dc12 pm12 cd12 ct12 : Value}
    {f13 : Addr} {od13 an13 : Option Addr} {sl13 : Array (Option Value)} {oc13 kV13 dc13 pm13 cd13 ct13 : Value}
    {f14 : Addr} {od14 an14 : Option Addr} {sl14 : Array (Option Value)} {oc14 kV14 dc14 pm14 cd14 ct14 : Value}
    {f15 : Addr} {od15 an15 : Option Addr} {sl15 : Array (Option Value)} {oc15 kV15 dc15 pm15 cd15 ct15 : Value}
    {f16 : Addr} {od16 an16 : Option Addr} {sl16 : Array (Option Value)} {oc16 kV16 dc16 pm16 cd16 ct16 : Value}
    {f17 : Addr} {od17 an17 : Option Addr} {sl17 : Array (Option Value)} {oc17 kV17 dc17 pm17 cd17 ct17 : Value}
    {f18 : Addr} {od18 an18 : Option Addr} {sl18 : Array (Option Value)} {oc18 kV18 dc18 pm18 cd18 ct18 : Value}
    {f19 : Addr} {od19 an19 : Option Addr} {sl19 : Array (Option Value)} {oc19 kV19 dc19 pm19 cd19 ct19 : Value}
    {f20 : Addr} {od20 an20 : Option Addr} {sl20 : Array (Option Value)} {oc20 kV20 dc20 pm20 cd20 ct20 : Value}
    {f21 : Addr} {od21 an21 : Option Addr} {sl21 : Array (Option Value)} {oc21 kV21 dc21 pm21 cd21 ct21 : Value}
    {f22 : Addr} {od22 an22 : Option Addr} {sl22 : Array (Option Value)} {oc22 kV22 dc22 pm22 cd22 ct22 : Value}
    {f23 : Addr} {od23 an23 : Option Addr} {sl23 : Array (Option Value)} {oc23 kV23 dc23 pm23 cd23 ct23 : Value}
    {f24 : Addr} {od24 an24 : Option Addr} {sl24 : Array (Option Value)} {oc24 kV24 dc24 pm24 cd24 ct24 : Value}
    {f25 : Addr} {od25 an25 : Option Addr} {sl25 : Array (Option Value)} {oc25 kV25 dc25 pm25 cd25 ct25 : Value}
    {f26 : Addr} {od26 an26 : Option Addr} {sl26 : Array (Option Value)} {oc26 kV26 dc26 pm26 cd26 ct26 : Value}
    {f27 : Addr} {od27 an27 : Option Addr} {sl27 : Array (Option Value)} {oc27 kV27 dc27 pm27 cd27 ct27 : Value}
    {f28 : Addr} {od28 an28 : Option Addr} {sl28 : Array (Option Value)} {oc28 kV28 dc28 pm28 cd28 ct28 : Value}
    {f29 : Addr} {od29 an29 : Option Addr} {sl29 : Array (Option Value)} {oc29 kV29 dc29 pm29 cd29 ct29 : Value}
    {c_Loud : Addr}
    {c_Groups : Addr}
    (g_Groups : PySem.W.nsIn K mainGlobals "Groups" = some (some (.ref c_Groups)))
    (pg_Groups : PySem.W.plainGet K c_Groups Str.empty = true)
    (hd_Groups : PySem.W.hasDictIn K c_Groups = true)
    (po_Groups : PySem.W.plainOver K c_Groups = true)
    (sa_Groups : PySem.W.findIn K (.ref c_Groups) "__setattr__" = some (some (.builtin "object.__setattr__")))
    (mk_Groups : PySem.W.makesIn K c_Groups = true)
    (kc_Groups : PySem.W.keepIn K (.ref c_Groups) = true)
    (na_Groups_told : PySem.W.findIn K (.ref c_Groups) "told" = some none)
    (na_Groups_steps : PySem.W.findIn K (.ref c_Groups) "steps" = some none)
    (na_Groups_starts : PySem.W.findIn K (.ref c_Groups) "starts" = some none)
    (na_Groups_alive : PySem.W.findIn K (.ref c_Groups) "alive" = some none)
    (a0 : PySem.W.nsIn K mainGlobals "is_near" = some (some (.ref f0)))
    (l0 : K.lookup f0 = some ⟨oc0, od0, .func (PySem.W.fnOf "is_near" "is_near" (defArgs s_is_near) (defBody s_is_near) (defScope s_is_near) .none kV0 dc0 pm0 an0 cd0 ct0), sl0⟩)
    (c0 : PySem.W.codeIn K cd0 "is_near" = true)
    (k0 : PySem.W.keepIn K (.ref f0) = true)
    (a1 : PySem.W.nsIn K mainGlobals "offsets" = some (some (.ref f1)))
    (l1 : K.lookup f1 = some ⟨oc1, od1, .func (PySem.W.fnOf "offsets" "offsets" (defArgs s_offsets) (defBody s_offsets) (defScope s_offsets) .none kV1 dc1 pm1 an1 cd1 ct1), sl1⟩)
    (c1 : PySem.W.codeIn K cd1 "offsets" = true)
    (k1 : PySem.W.keepIn K (.ref f1) = true)
    (a2 : PySem.W.nsIn K mainGlobals "around" = some (some (.ref f2)))
    (l2 : K.lookup f2 = some ⟨oc2, od2, .func (PySem.W.fnOf "around" "around" (defArgs s_around) (defBody s_around) (defScope s_around) .none kV2 dc2 pm2 an2 cd2 ct2), sl2⟩)
    (c2 : PySem.W.codeIn K cd2 "around" = true)
    (k2 : PySem.W.keepIn K (.ref f2) = true)
    (a3 : PySem.W.nsIn K mainGlobals "is_quiet" = some (some (.ref f3)))
    (l3 : K.lookup f3 = some ⟨oc3, od3, .func (PySem.W.fnOf "is_quiet" "is_quiet" (defArgs s_is_quiet) (defBody s_is_quiet) (defScope s_is_quiet) .none kV3 dc3 pm3 an3 cd3 ct3), sl3⟩)
    (c3 : PySem.W.codeIn K cd3 "is_quiet" = true)
    (k3 : PySem.W.keepIn K (.ref f3) = true)
    (a4 : PySem.W.nsIn K mainGlobals "ask_quiet" = some (some (.ref f4)))
    (l4 : K.lookup f4 = some ⟨oc4, od4, .func (PySem.W.fnOf "ask_quiet" "ask_quiet" (defArgs s_ask_quiet) (defBody s_ask_quiet) (defScope s_ask_quiet) .none kV4 dc4 pm4 an4 cd4 ct4), sl4⟩)
    (c4 : PySem.W.codeIn K cd4 "ask_quiet" = true)
    (k4 : PySem.W.keepIn K (.ref f4) = true)
    (a5 : PySem.W.nsIn K mainGlobals "comes" = some (some (.ref f5)))
    (l5 : K.lookup f5 = some ⟨oc5, od5, .func (PySem.W.fnOf "comes" "comes" (defArgs s_comes) (defBody s_comes) (defScope s_comes) .none kV5 dc5 pm5 an5 cd5 ct5), sl5⟩)
    (c5 : PySem.W.codeIn K cd5 "comes" = true)
    (k5 : PySem.W.keepIn K (.ref f5) = true)
    (a6 : PySem.W.nsIn K mainGlobals "counts" = some (some (.ref f6)))
    (l6 : K.lookup f6 = some ⟨oc6, od6, .func (PySem.W.fnOf "counts" "counts" (defArgs s_counts) (defBody s_counts) (defScope s_counts) .none kV6 dc6 pm6 an6 cd6 ct6), sl6⟩)
    (c6 : PySem.W.codeIn K cd6 "counts" = true)
    (k6 : PySem.W.keepIn K (.ref f6) = true)
    (a7 : PySem.W.nsIn K mainGlobals "next_turn" = some (some (.ref f7)))
    (l7 : K.lookup f7 = some ⟨oc7, od7, .func (PySem.W.fnOf "next_turn" "next_turn" (defArgs s_next_turn) (defBody s_next_turn) (defScope s_next_turn) .none kV7 dc7 pm7 an7 cd7 ct7), sl7⟩)
    (c7 : PySem.W.codeIn K cd7 "next_turn" = true)
    (k7 : PySem.W.keepIn K (.ref f7) = true)
    (a8 : PySem.W.nsIn K mainGlobals "hangs_on" = some (some (.ref f8)))
    (l8 : K.lookup f8 = some ⟨oc8, od8, .func (PySem.W.fnOf "hangs_on" "hangs_on" (defArgs s_hangs_on) (defBody s_hangs_on) (defScope s_hangs_on) .none kV8 dc8 pm8 an8 cd8 ct8), sl8⟩)
    (c8 : PySem.W.codeIn K cd8 "hangs_on" = true)
    (k8 : PySem.W.keepIn K (.ref f8) = true)
    (a9 : PySem.W.findIn K (.ref c_Groups) "__init__" = some (some (.ref f9)))
    (i9 : PySem.W.isFn K (.ref f9) = true)
    (l9 : K.lookup f9 = some ⟨oc9, od9, .func (PySem.W.fnOf "__init__" "Groups.__init__" (defArgs s_Groups___init) (defBody s_Groups___init) (defScope s_Groups___init) .none kV9 dc9 pm9 an9 cd9 ct9), sl9⟩)
    (c9 : PySem.W.codeIn K cd9 "Groups.__init__" = true)
    (k9 : PySem.W.keepIn K (.ref f9) = true)
    (a10 : PySem.W.findIn K (.ref c_Groups) "near" = some (some (.ref f10)))
    (i10 : PySem.W.isFn K (.ref f10) = true)
    (l10 : K.lookup f10 = some ⟨oc10, od10, .func (PySem.W.fnOf "near" "Groups.near" (defArgs s_Groups_near) (defBody s_Groups_near) (defScope s_Groups_near) .none kV10 dc10 pm10 an10 cd10 ct10), sl10⟩)
    (c10 : PySem.W.codeIn K cd10 "Groups.near" = true)
    (k10 : PySem.W.keepIn K (.ref f10) = true)
    (a11 : PySem.W.findIn K (.ref c_Groups) "crowded" = some (some (.ref f11)))
    (i11 : PySem.W.isFn K (.ref f11) = true)
    (l11 : K.lookup f11 = some ⟨oc11, od11, .func (PySem.W.fnOf "crowded" "Groups.crowded" (defArgs s_Groups_crowded) (defBody s_Groups_crowded) (defScope s_Groups_crowded) .none kV11 dc11 pm11 an11 cd11 ct11), sl11⟩)
    (c11 : PySem.W.codeIn K cd11 "Groups.crowded" = true)
    (k11 : PySem.W.keepIn K (.ref f11) = true)
    (a12 : PySem.W.findIn K (.ref c_Groups) "merged" = some (some (.ref f12)))
    (i12 : PySem.W.isFn K (.ref f12) = true)
    (l12 : K.lookup f12 = some ⟨oc12, od12, .func (PySem.W.fnOf "merged" "Groups.merged" (defArgs s_Groups_merged) (defBody s_Groups_merged) (defScope s_Groups_merged) .none kV12 dc12 pm12 an12 cd12 ct12), sl12⟩)
    (c12 : PySem.W.codeIn K cd12 "Groups.merged" = true)
    (k12 : PySem.W.keepIn K (.ref f12) = true)
    (a13 : PySem.W.findIn K (.ref c_Groups) "go_on" = some (some (.ref f13)))
    (i13 : PySem.W.isFn K (.ref f13) = true)
    (l13 : K.lookup f13 = some ⟨oc13, od13, .func (PySem.W.fnOf "go_on" "Groups.go_on" (defArgs s_Groups_go_on) (defBody s_Groups_go_on) (defScope s_Groups_go_on) .none kV13 dc13 pm13 an13 cd13 ct13), sl13⟩)
    (c13 : PySem.W.codeIn K cd13 "Groups.go_on" = true)
    (k13 : PySem.W.keepIn K (.ref f13) = true)
    (a14 : PySem.W.findIn K (.ref c_Groups) "parts" = some (some (.ref f14)))
    (i14 : PySem.W.isFn K (.ref f14) = true)
    (l14 : K.lookup f14 = some ⟨oc14, od14, .func (PySem.W.fnOf "parts" "Groups.parts" (defArgs s_Groups_parts) (defBody s_Groups_parts) (defScope s_Groups_parts) .none kV14 dc14 pm14 an14 cd14 ct14), sl14⟩)
    (c14 : PySem.W.codeIn K cd14 "Groups.parts" = true)
    (k14 : PySem.W.keepIn K (.ref f14) = true)
    (a15 : PySem.W.nsIn K mainGlobals "parts" = some (some (.ref f15)))
    (l15 : K.lookup f15 = some ⟨oc15, od15, .func (PySem.W.fnOf "parts" "parts" (defArgs s_parts) (defBody s_parts) (defScope s_parts) .none kV15 dc15 pm15 an15 cd15 ct15), sl15⟩)
    (c15 : PySem.W.codeIn K cd15 "parts" = true)
    (k15 : PySem.W.keepIn K (.ref f15) = true)
    (a16 : PySem.W.nsIn K mainGlobals "_law_pen" = some (some (.ref f16)))
    (l16 : K.lookup f16 = some ⟨oc16, od16, .func (PySem.W.fnOf "_law_pen" "_law_pen" (defArgs s_law_pen) (defBody s_law_pen) (defScope s_law_pen) .none kV16 dc16 pm16 an16 cd16 ct16), sl16⟩)
    (c16 : PySem.W.codeIn K cd16 "_law_pen" = true)
    (k16 : PySem.W.keepIn K (.ref f16) = true)
    (a17 : PySem.W.nsIn K mainGlobals "_law_draw" = some (some (.ref f17)))
    (l17 : K.lookup f17 = some ⟨oc17, od17, .func (PySem.W.fnOf "_law_draw" "_law_draw" (defArgs s_law_draw) (defBody s_law_draw) (defScope s_law_draw) .none kV17 dc17 pm17 an17 cd17 ct17), sl17⟩)
    (c17 : PySem.W.codeIn K cd17 "_law_draw" = true)
    (k17 : PySem.W.keepIn K (.ref f17) = true)
    (a18 : PySem.W.nsIn K mainGlobals "_law_number" = some (some (.ref f18)))
    (l18 : K.lookup f18 = some ⟨oc18, od18, .func (PySem.W.fnOf "_law_number" "_law_number" (defArgs s_law_number) (defBody s_law_number) (defScope s_law_number) .none kV18 dc18 pm18 an18 cd18 ct18), sl18⟩)
    (c18 : PySem.W.codeIn K cd18 "_law_number" = true)
    (k18 : PySem.W.keepIn K (.ref f18) = true)
    (a19 : PySem.W.nsIn K mainGlobals "_law_rule" = some (some (.ref f19)))
    (l19 : K.lookup f19 = some ⟨oc19, od19, .func (PySem.W.fnOf "_law_rule" "_law_rule" (defArgs s_law_rule) (defBody s_law_rule) (defScope s_law_rule) .none kV19 dc19 pm19 an19 cd19 ct19), sl19⟩)
    (c19 : PySem.W.codeIn K cd19 "_law_rule" = true)
    (k19 : PySem.W.keepIn K (.ref f19) = true)
    (a20 : PySem.W.nsIn K mainGlobals "_law_picture" = some (some (.ref f20)))
    (l20 : K.lookup f20 = some ⟨oc20, od20, .func (PySem.W.fnOf "_law_picture" "_law_picture" (defArgs s_law_picture) (defBody s_law_picture) (defScope s_law_picture) .none kV20 dc20 pm20 an20 cd20 ct20), sl20⟩)
    (c20 : PySem.W.codeIn K cd20 "_law_picture" = true)
    (k20 : PySem.W.keepIn K (.ref f20) = true)
    (a21 : PySem.W.nsIn K mainGlobals "_law_near" = some (some (.ref f21)))
    (l21 : K.lookup f21 = some ⟨oc21, od21, .func (PySem.W.fnOf "_law_near" "_law_near" (defArgs s_law_near) (defBody s_law_near) (defScope s_law_near) .none kV21 dc21 pm21 an21 cd21 ct21), sl21⟩)
    (c21 : PySem.W.codeIn K cd21 "_law_near" = true)
    (k21 : PySem.W.keepIn K (.ref f21) = true)
    (a22 : PySem.W.nsIn K mainGlobals "_law_next" = some (some (.ref f22)))
    (l22 : K.lookup f22 = some ⟨oc22, od22, .func (PySem.W.fnOf "_law_next" "_law_next" (defArgs s_law_next) (defBody s_law_next) (defScope s_law_next) .none kV22 dc22 pm22 an22 cd22 ct22), sl22⟩)
    (c22 : PySem.W.codeIn K cd22 "_law_next" = true)
    (k22 : PySem.W.keepIn K (.ref f22) = true)
    (a23 : PySem.W.nsIn K mainGlobals "_law_touch" = some (some (.ref f23)))
    (l23 : K.lookup f23 = some ⟨oc23, od23, .func (PySem.W.fnOf "_law_touch" "_law_touch" (defArgs s_law_touch) (defBody s_law_touch) (defScope s_law_touch) .none kV23 dc23 pm23 an23 cd23 ct23), sl23⟩)
    (c23 : PySem.W.codeIn K cd23 "_law_touch" = true)
    (k23 : PySem.W.keepIn K (.ref f23) = true)
    (a24 : PySem.W.nsIn K mainGlobals "_law_meet" = some (some (.ref f24)))
    (l24 : K.lookup f24 = some ⟨oc24, od24, .func (PySem.W.fnOf "_law_meet" "_law_meet" (defArgs s_law_meet) (defBody s_law_meet) (defScope s_law_meet) .none kV24 dc24 pm24 an24 cd24 ct24), sl24⟩)
    (c24 : PySem.W.codeIn K cd24 "_law_meet" = true)
    (k24 : PySem.W.keepIn K (.ref f24) = true)
    (a25 : PySem.W.nsIn K mainGlobals "_law_cut" = some (some (.ref f25)))
    (l25 : K.lookup f25 = some ⟨oc25, od25, .func (PySem.W.fnOf "_law_cut" "_law_cut" (defArgs s_law_cut) (defBody s_law_cut) (defScope s_law_cut) .none kV25 dc25 pm25 an25 cd25 ct25), sl25⟩)
    (c25 : PySem.W.codeIn K cd25 "_law_cut" = true)
    (k25 : PySem.W.keepIn K (.ref f25) = true)
    (a26 : PySem.W.nsIn K mainGlobals "_law_holds_together" = some (some (.ref f26)))
    (l26 : K.lookup f26 = some ⟨oc26, od26, .func (PySem.W.fnOf "_law_holds_together" "_law_holds_together" (defArgs s_law_holds_together) (defBody s_law_holds_together) (defScope s_law_holds_together) .none kV26 dc26 pm26 an26 cd26 ct26), sl26⟩)
    (c26 : PySem.W.codeIn K cd26 "_law_holds_together" = true)
    (k26 : PySem.W.keepIn K (.ref f26) = true)
    (a27 : PySem.W.nsIn K mainGlobals "_law_together" = some (some (.ref f27)))
    (l27 : K.lookup f27 = some ⟨oc27, od27, .func (PySem.W.fnOf "_law_together" "_law_together" (defArgs s_law_together) (defBody s_law_together) (defScope s_law_together) .none kV27 dc27 pm27 an27 cd27 ct27), sl27⟩)
    (c27 : PySem.W.codeIn K cd27 "_law_together" = true)
    (k27 : PySem.W.keepIn K (.ref f27) = true)
    (a28 : PySem.W.nsIn K mainGlobals "_law_long" = some (some (.ref f28)))
    (l28 : K.lookup f28 = some ⟨oc28, od28, .func (PySem.W.fnOf "_law_long" "_law_long" (defArgs s_law_long) (defBody s_law_long) (defScope s_law_long) .none kV28 dc28 pm28 an28 cd28 ct28), sl28⟩)
    (c28 : PySem.W.codeIn K cd28 "_law_long" = true)
    (k28 : PySem.W.keepIn K (.ref f28) = true)
    (a29 : PySem.W.nsIn K mainGlobals "law" = some (some (.ref f29)))
    (l29 : K.lookup f29 = some ⟨oc29, od29, .func (PySem.W.fnOf "law" "law" (defArgs s_law) (defBody s_law) (defScope s_law) .none kV29 dc29 pm29 an29 cd29 ct29), sl29⟩)
    (c29 : PySem.W.codeIn K cd29 "law" = true)
    (k29 : PySem.W.keepIn K (.ref f29) = true)
    (z0 : PySem.W.nsIn K mainGlobals "any" = some none)
    (z1 : PySem.W.nsIn K mainGlobals "enumerate" = some none)
    (z2 : PySem.W.nsIn K mainGlobals "int" = some none)
    (z3 : PySem.W.nsIn K mainGlobals "len" = some none)
    (z4 : PySem.W.nsIn K mainGlobals "list" = some none)
    (z5 : PySem.W.nsIn K mainGlobals "max" = some none)
    (z6 : PySem.W.nsIn K mainGlobals "min" = some none)
    (z7 : PySem.W.nsIn K mainGlobals "range" = some none)
    (z8 : PySem.W.nsIn K mainGlobals "set" = some none)
    (z9 : PySem.W.nsIn K mainGlobals "sorted" = some none)
    (z10 : PySem.W.nsIn K mainGlobals "tuple" = some none)
    (g_Loud : PySem.W.nsIn K mainGlobals "Loud" = some (some (.ref c_Loud)))
    (i_Loud : PySem.W.isClsIn K c_Loud = true)
    (y_Loud : PySem.W.typeIn K (.ref c_Loud) = some (.type "type"))
    (s_Loud : PySem.W.subIn K (.ref c_Loud) (.ref c_Loud) = some true)
    (b_Loud : PySem.W.subIn K (.ref c_Loud) (.type "BaseException") = some true)
    (x_Loud : PySem.W.excIn K c_Loud [.type "ValueError", .type "Exception", .type "BaseException", .type "object"] "ValueError.__new__" = true)
    (k_Loud : PySem.W.keepIn K (.ref c_Loud) = true)
    : ∃ fd : FuncData, (∀ (s : Shared) (v : Value), BindsTo s fd ⟨[v], []⟩ [("_law_script", v)]) ∧ ∀ base : Heap, K.In base → base.Ns mainGlobals mg → FnOk l.prog w K mg base (L2.CX l.prog w) 7 fa fd ["_law_script"] (spA K f_law) := by
  have e := hfa.symm.trans (PySem.W.mg_of X G a29)
  cases e
  have F0 := fun_mk (st := s_is_near) l0 c0 k0
  have B0 := F0.binds (ps := ["kind", "dx", "dy"]) fun _ _ _ _ _ _ us hl => match us, hl with | [_, _, _], _ => rfl
  have F1 := fun_mk (st := s_offsets) l1 c1 k1
  have B1 := F1.binds (ps := ["kind"]) fun _ _ _ _ _ _ us hl => match us, hl with | [_], _ => rfl
  have F2 := fun_mk (st := s_around) l2 c2 k2
  have B2 := F2.binds (ps := []) fun _ _ _ _ _ _ us hl => match us, hl with | [], _ => rfl
  have F3 := fun_mk (st := s_is_quiet) l3 c3 k3
  have B3 := F3.binds (ps := ["told"]) fun _ _ _ _ _ _ us hl => match us, hl with | [_], _ => rfl
  have F4 := fun_mk (st := s_ask_quiet) l4 c4 k4
  have B4 := F4.binds (ps := ["told"]) fun _ _ _ _ _ _ us hl => match us, hl with | [_], _ => rfl
  have F5 := fun_mk (st := s_comes) l5 c5 k5
  have B5 := F5.binds (ps := ["told", "alive", "count"]) fun _ _ _ _ _ _ us hl => match us, hl with | [_, _, _], _ => rfl
  have F6 := fun_mk (st := s_counts) l6 c6 k6
  have B6 := F6.binds (ps := ["kind", "live"]) fun _ _ _ _ _ _ us hl => match us, hl with | [_, _], _ => rfl
  have F7 := fun_mk (st := s_next_turn) l7 c7 k7
  have B7 := F7.binds (ps := ["rule", "live"]) fun _ _ _ _ _ _ us hl => match us, hl with | [_, _], _ => rfl
  have F8 := fun_mk (st := s_hangs_on) l8 c8 k8
  have B8 := F8.binds (ps := ["kind", "cell"]) fun _ _ _ _ _ _ us hl => match us, hl with | [_, _], _ => rfl
  have F9 := fun_mk (st := s_Groups___init) l9 c9 k9
  have B9 := F9.binds (ps := ["self", "told", "live"]) fun _ _ _ _ _ _ us hl => match us, hl with | [_, _, _], _ => rfl
  have F10 := fun_mk (st := s_Groups_near) l10 c10 k10
  have B10 := F10.binds (ps := ["self", "cell"]) fun _ _ _ _ _ _ us hl => match us, hl with | [_, _], _ => rfl
  have F11 := fun_mk (st := s_Groups_crowded) l11 c11 k11
  have B11 := F11.binds (ps := ["self"]) fun _ _ _ _ _ _ us hl => match us, hl with | [_], _ => rfl
  have F12 := fun_mk (st := s_Groups_merged) l12 c12 k12
  have B12 := F12.binds (ps := ["self", "cell"]) fun _ _ _ _ _ _ us hl => match us, hl with | [_, _], _ => rfl
  have F13 := fun_mk (st := s_Groups_go_on) l13 c13 k13
  have B13 := F13.binds (ps := ["self"]) fun _ _ _ _ _ _ us hl => match us, hl with | [_], _ => rfl
  have F14 := fun_mk (st := s_Groups_parts) l14 c14 k14
  have B14 := F14.binds (ps := ["self"]) fun _ _ _ _ _ _ us hl => match us, hl with | [_], _ => rfl
  have F15 := fun_mk (st := s_parts) l15 c15 k15
  have B15 := F15.binds (ps := ["told", "live", "many"]) fun _ _ _ _ _ _ us hl => match us, hl with | [_, _, _], _ => rfl
  have F16 := fun_mk (st := s_law_pen) l16 c16 k16
  have B16 := F16.binds (ps := ["_law_script", "_law_k"]) fun _ _ _ _ _ _ us hl => match us, hl with | [_, _], _ => rfl
  have F17 := fun_mk (st := s_law_draw) l17 c17 k17
  have B17 := F17.binds (ps := ["_law_pen_here", "_law_many"]) fun _ _ _ _ _ _ us hl => match us, hl with | [_, _], _ => rfl
  have F18 := fun_mk (st := s_law_number) l18 c18 k18
  have B18 := F18.binds (ps := ["_law_pen_here"]) fun _ _ _ _ _ _ us hl => match us, hl with | [_], _ => rfl
  have F19 := fun_mk (st := s_law_rule) l19 c19 k19
  have B19 := F19.binds (ps := ["_law_pen_here"]) fun _ _ _ _ _ _ us hl => match us, hl with | [_], _ => rfl
  have F20 := fun_mk (st := s_law_picture) l20 c20 k20
  have B20 := F20.binds (ps := ["_law_pen_here"]) fun _ _ _ _ _ _ us hl => match us, hl with | [_], _ => rfl
  have F21 := fun_mk (st := s_law_near) l21 c21 k21
  have B21 := F21.binds (ps := ["_law_kind", "_law_cell"]) fun _ _ _ _ _ _ us hl => match us, hl with | [_, _], _ => rfl
  have F22 := fun_mk (st := s_law_next) l22 c22 k22
  have B22 := F22.binds (ps := ["_law_by", "_law_live"]) fun _ _ _ _ _ _ us hl => match us, hl with | [_, _], _ => rfl
  have F23 := fun_mk (st := s_law_touch) l23 c23 k23
  have B23 := F23.binds (ps := ["_law_kind", "_law_one", "_law_other"]) fun _ _ _ _ _ _ us hl => match us, hl with | [_, _, _], _ => rfl
  have F24 := fun_mk (st := s_law_meet) l24 c24 k24
  have B24 := F24.binds (ps := ["_law_by", "_law_one", "_law_other", "_law_many"]) fun _ _ _ _ _ _ us hl => match us, hl with | [_, _, _, _], _ => rfl
  have F25 := fun_mk (st := s_law_cut) l25 c25 k25
  have B25 := F25.binds (ps := ["_law_part", "_law_number_here"]) fun _ _ _ _ _ _ us hl => match us, hl with | [_, _], _ => rfl
  have F26 := fun_mk (st := s_law_holds_together) l26 c26 k26
  have B26 := F26.binds (ps := ["_law_pen_here", "_law_by", "_law_part", "_law_many"]) fun _ _ _ _ _ _ us hl => match us, hl with | [_, _, _, _], _ => rfl
  have F27 := fun_mk (st := s_law_together) l27 c27 k27
  have B27 := F27.binds (ps := ["_law_some"]) fun _ _ _ _ _ _ us hl => match us, hl with | [_], _ => rfl
  have F28 := fun_mk (st := s_law_long) l28 c28 k28
  have B28 := F28.binds (ps := ["_law_pen_here", "_law_by", "_law_live", "_law_many"]) fun _ _ _ _ _ _ us hl => match us, hl with | [_, _, _, _], _ => rfl
  have F29 := fun_mk (st := s_law) l29 c29 k29
  have B29 := F29.binds (ps := ["_law_script"]) fun _ _ _ _ _ _ us hl => match us, hl with | [_], _ => rfl
  exact ⟨_, fun s v => .of_eq rfl, fun base _ _ => fnOk_A (cv := fun q => if q = "Loud" then .ref c_Loud else .none) (ok_law (A := ⟨f0, _, f1, _, f2, _, f3, _, f4, _, f5, _, f6, _, f7, _, f8, _, f9, _, f10, _, f11, _, f12, _, f13, _, f14, _, f15, _, f16, _, f17, _, f18, _, f19, _, f20, _, f21, _, f22, _, f23, _, f24, _, f25, _, f26, _, f27, _, f28, _, fa, _, c_Loud, c_Groups⟩) ⟨F0, B0, PySem.W.mg_of X G a0, F1, B1, PySem.W.mg_of X G a1, F2, B2, PySem.W.mg_of X G a2, F3, B3, PySem.W.mg_of X G a3, F4, B4, PySem.W.mg_of X G a4, F5, B5, PySem.W.mg_of X G a5, F6, B6, PySem.W.mg_of X G a6, F7, B7, PySem.W.mg_of X G a7, F8, B8, PySem.W.mg_of X G a8, F9, B9, F10, B10, F11, B11, F12, B12, F13, B13, F14, B14, F15, B15, PySem.W.mg_of X G a15, F16, B16, PySem.W.mg_of X G a16, F17, B17, PySem.W.mg_of X G a17, F18, B18, PySem.W.mg_of X G a18, F19, B19, PySem.W.mg_of X G a19, F20, B20, PySem.W.mg_of X G a20, F21, B21, PySem.W.mg_of X G a21, F22, B22, PySem.W.mg_of X G a22, F23, B23, PySem.W.mg_of X G a23, F24, B24, PySem.W.mg_of X G a24, F25, B25, PySem.W.mg_of X G a25, F26, B26, PySem.W.mg_of X G a26, F27, B27, PySem.W.mg_of X G a27, F28, B28, PySem.W.mg_of X G a28, F29, B29, PySem.W.mg_of X G a29, PySem.W.mg_of X G g_Groups, g_Groups, ⟨pg_Groups, hd_Groups, po_Groups, sa_Groups⟩, ⟨mk_Groups, a9, i9, kc_Groups⟩, ⟨a10, i10, k10⟩, ⟨a11, i11, k11⟩, ⟨a12, i12, k12⟩, ⟨a13, i13, k13⟩, ⟨a14, i14, k14⟩, na_Groups_told, na_Groups_steps, na_Groups_starts, na_Groups_alive, PySem.W.mg_none_of X G z0, PySem.W.mg_none_of X G z1, PySem.W.mg_none_of X G z2, PySem.W.mg_none_of X G z3, PySem.W.mg_none_of X G z4, PySem.W.mg_none_of X G z5, PySem.W.mg_none_of X G z6, PySem.W.mg_none_of X G z7, PySem.W.mg_none_of X G z8, PySem.W.mg_none_of X G z9, PySem.W.mg_none_of X G z10, PySem.W.mg_of X G g_Loud, ⟨i_Loud, y_Loud, s_Loud⟩, ⟨x_Loud, k_Loud, b_Loud, y_Loud⟩, (by simp)⟩)⟩
end K57
open PySem PySem.W PyProof.Rows
set_option maxHeartbeats 0 in
theorem PySem.Challenge.cw_cellships_k57_whole_no_smaller_parts_holds : PySem.Challenge.rw_cellships_k57_whole_no_smaller_parts.Holds := by
  w_on; o_law; k_head; (case hw => w_witness2)
  k_fill
  refine L2.walk_of (l := PySem.Challenge.rw_cellships_k57_whole_no_smaller_parts) (n := 63) (k := 7) (x := "_law_script") (CX := fun w => L2.CX PySem.Challenge.rw_cellships_k57_whole_no_smaller_parts.prog w) (sp := fun w => G.spA _ K57.f_law) rfl (by decide) rfl ⟨rfl, by decide, by decide⟩ (fun w h Y => PySem.W.kIn_of Y) ?F (fun w H a ns hl _ hS => G.law_spA hS (K57.main ns hl)) (fun w H s e s' h => G.law_cx (P := PySem.Challenge.rw_cellships_k57_whole_no_smaller_parts.prog) h)
  case F =>
    intro w mg fa h KX G hmg
    refine' K57.all_mk KX G hmg ?g_Groups ?pg_Groups ?hd_Groups ?po_Groups ?sa_Groups ?mk_Groups ?kc_Groups ?na_Groups_told ?na_Groups_steps ?na_Groups_starts ?na_Groups_alive ?a0 ?l0 ?c0 ?k0 ?a1 ?l1 ?c1 ?k1 ?a2 ?l2 ?c2 ?k2 ?a3 ?l3 ?c3 ?k3 ?a4 ?l4 ?c4 ?k4 ?a5 ?l5 ?c5 ?k5 ?a6 ?l6 ?c6 ?k6 ?a7 ?l7 ?c7 ?k7 ?a8 ?l8 ?c8 ?k8 ?a9 ?i9 ?l9 ?c9 ?k9 ?a10 ?i10 ?l10 ?c10 ?k10 ?a11 ?i11 ?l11 ?c11 ?k11 ?a12 ?i12 ?l12 ?c12 ?k12 ?a13 ?i13 ?l13 ?c13 ?k13 ?a14 ?i14 ?l14 ?c14 ?k14 ?a15 ?l15 ?c15 ?k15 ?a16 ?l16 ?c16 ?k16 ?a17 ?l17 ?c17 ?k17 ?a18 ?l18 ?c18 ?k18 ?a19 ?l19 ?c19 ?k19 ?a20 ?l20 ?c20 ?k20 ?a21 ?l21 ?c21 ?k21 ?a22 ?l22 ?c22 ?k22 ?a23 ?l23 ?c23 ?k23 ?a24 ?l24 ?c24 ?k24 ?a25 ?l25 ?c25 ?k25 ?a26 ?l26 ?c26 ?k26 ?a27 ?l27 ?c27 ?k27 ?a28 ?l28 ?c28 ?k28 ?a29 ?l29 ?c29 ?k29 ?z0 ?z1 ?z2 ?z3 ?z4 ?z5 ?z6 ?z7 ?z8 ?z9 ?z10 ?g_Loud ?i_Loud ?y_Loud ?s_Loud ?b_Loud ?x_Loud ?k_Loud
    (case g_Groups => k_is); (case pg_Groups => k_is); (case hd_Groups => k_is); (case po_Groups => k_is); (case sa_Groups => k_is); (case mk_Groups => k_is); (case kc_Groups => k_is); (case na_Groups_told => k_is); (case na_Groups_steps => k_is); (case na_Groups_starts => k_is); (case na_Groups_alive => k_is); (case a0 => k_is); (case l0 => k_is); (case c0 => k_is); (case k0 => k_is); (case a1 => k_is); (case l1 => k_is); (case c1 => k_is); (case k1 => k_is); (case a2 => k_is); (case l2 => k_is); (case c2 => k_is); (case k2 => k_is); (case a3 => k_is); (case l3 => k_is); (case c3 => k_is); (case k3 => k_is); (case a4 => k_is); (case l4 => k_is); (case c4 => k_is); (case k4 => k_is); (case a5 => k_is); (case l5 => k_is); (case c5 => k_is); (case k5 => k_is); (case a6 => k_is); (case l6 => k_is); (case c6 => k_is); (case k6 => k_is); (case a7 => k_is); (case l7 => k_is); (case c7 => k_is); (case k7 => k_is); (case a8 => k_is); (case l8 => k_is); (case c8 => k_is); (case k8 => k_is); (case a9 => k_is); (case i9 => k_is); (case l9 => k_is); (case c9 => k_is); (case k9 => k_is); (case a10 => k_is); (case i10 => k_is); (case l10 => k_is); (case c10 => k_is); (case k10 => k_is); (case a11 => k_is); (case i11 => k_is); (case l11 => k_is); (case c11 => k_is); (case k11 => k_is); (case a12 => k_is); (case i12 => k_is); (case l12 => k_is); (case c12 => k_is); (case k12 => k_is); (case a13 => k_is); (case i13 => k_is); (case l13 => k_is); (case c13 => k_is); (case k13 => k_is); (case a14 => k_is); (case i14 => k_is); (case l14 => k_is); (case c14 => k_is); (case k14 => k_is); (case a15 => k_is); (case l15 => k_is); (case c15 => k_is); (case k15 => k_is); (case a16 => k_is); (case l16 => k_is); (case c16 => k_is); (case k16 => k_is); (case a17 => k_is); (case l17 => k_is); (case c17 => k_is); (case k17 => k_is); (case a18 => k_is); (case l18 => k_is); (case c18 => k_is); (case k18 => k_is); (case a19 => k_is); (case l19 => k_is); (case c19 => k_is); (case k19 => k_is); (case a20 => k_is); (case l20 => k_is); (case c20 => k_is); (case k20 => k_is); (case a21 => k_is); (case l21 => k_is); (case c21 => k_is); (case k21 => k_is); (case a22 => k_is); (case l22 => k_is); (case c22 => k_is); (case k22 => k_is); (case a23 => k_is); (case l23 => k_is); (case c23 => k_is); (case k23 => k_is); (case a24 => k_is); (case l24 => k_is); (case c24 => k_is); (case k24 => k_is); (case a25 => k_is); (case l25 => k_is); (case c25 => k_is); (case k25 => k_is); (case a26 => k_is); (case l26 => k_is); (case c26 => k_is); (case k26 => k_is); (case a27 => k_is); (case l27 => k_is); (case c27 => k_is); (case k27 => k_is); (case a28 => k_is); (case l28 => k_is); (case c28 => k_is); (case k28 => k_is); (case a29 => k_is); (case l29 => k_is); (case c29 => k_is); (case k29 => k_is); (case z0 => k_is); (case z1 => k_is); (case z2 => k_is); (case z3 => k_is); (case z4 => k_is); (case z5 => k_is); (case z6 => k_is); (case z7 => k_is); (case z8 => k_is); (case z9 => k_is); (case z10 => k_is); (case g_Loud => k_is); (case i_Loud => k_is); (case y_Loud => k_is); (case s_Loud => first | rfl | k_is); (case b_Loud => k_is); (case x_Loud => k_exc); (case k_Loud => k_is)
