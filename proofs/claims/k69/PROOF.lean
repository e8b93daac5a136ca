import PyProof.Rows.All
import Wide.All
import OpenK.AllK
import Wide.FinOn
import HandS.ForMost
import HandS.Exc
import HandS.TryOnly
import HandS.ExcOwn
import HandS.WordsExc
import HandS.Deep
import HandS.Wide
import HandS.IsInst
import KE.KDictKeyed
import HandS.Lambda
import HandS.Style
import HandS.Conv
import HandS.Iter
import HandS.Zip
import KE.SortKeyed
import KE.DataMinMax
import KE.DataCmp
import HandS.TupAny
import HandS.TupSets
import KE.SortData
import HandS.SetFor
import HandS.Strs
import HandS.ExcIs
import KE.BitLaws
import HandS.TupMul
import HandS.SortKw
import HandS.DictTup
import KE.KDictWalk
import HandS.WideBits
import KE.IntBitsLaws
import HandS.ExcValue
import HandS.Rev
import HandS.RevRange
import KE.KDictPairs
import KE.KEqNest
import HandS.Flow
import HandS.Text
import KE.KDictCopyH
import HandS.ListEq
import HandS.Keys
import PyProof.LongRange
import HandS.Replace
import HandS.StrMore
import KE.KRevSl
import PyProof.DictMoreH
import KE.IntTextLaws
import PyProof.Draws
import PyProof.EnumMake
import PyProof.EqKinds
import PyProof.FactsAll.dict
import KE.SortKeyHeap
import HandS.EndTab
import HandS.HotCalls
import HandS.BoundDict
import KE.KDictLaws
import KE.KDictSum
import PySem.Challenge.RW_cellships_k69_no_tree_texts
set_option Elab.async false
set_option linter.all false
set_option maxRecDepth 100000
set_option autoImplicit false
set_option maxHeartbeats 4000000
namespace G
open PySem PySem.Spec PyProof.Rows L2

inductive D where
  | non | bl (b : Bool) | int (i : Int) | str (x : Str) | ty (n : String) | tup (ds : List D) | lst (ds : List D) | fix (ds : List D)
  | dicK (z : Bool) (es : List (Key × D)) | dicT (z : Bool) (es : List (List Key × D)) | dicN (z : Bool) (es : List (D × D))
  | exn (c : String) | inst (c : String) (fs : List (Str × D))
  | tab (a : Addr) (q : Str) | lnk (a : Addr) | atd (a : Addr) (d : D)
mutual
/-- the key of nested tuples of whole numbers that a value is -/
def nkD : D → Option NestedKey
  | .int i => some (.num i)
  | .tup ds => (nkDs ds).map .tup
  | _ => none
def nkDs : List D → Option (List NestedKey)
  | [] => some []
  | d :: ds => (nkD d).bind fun k => (nkDs ds).map (k :: ·)
end
/-- at a stands a dict whose keys are nested tuples of whole numbers: each key, the address of its tuple, its value -/
def NDict (a : Addr) (kvs : List (NestedKey × Addr × V)) : Heap → Prop := fun h => kvs.length ≤ sizeLine ∧ (a == sysModules) = false ∧ (∀ e ∈ kvs, e.1.depth ≤ 8) ∧ ∃ xs : List (NestedKey × Addr × Value),
  Paired (fun (p : NestedKey × Addr × V) (q : NestedKey × Addr × Value) => p.1 = q.1 ∧ p.2.1 = q.2.1 ∧ RelV p.2.2 q.2.2) kvs xs ∧
  ∃ o es ep, h.get? a = some o ∧ o.ExactDict ∧ o.data = .dict es ep ∧ (∀ (P : Program) (w : World), es.toList = xs.map (entryOfKey (nestedKind P w))) ∧ (xs.map (·.1)).Nodup
/-- a dict, locked for good or not -/
def frzIf (z : Bool) (o : Obj) (u : HO) : HO := if z = true then .frz o u else u

/-- the class of this name stands at C -/
def ClsAt (K : PySem.W.Frag) (c : String) (C : Addr) : Prop := PySem.W.nsIn K mainGlobals (Str.ofString c) = some (some (.ref C))
theorem ClsAt.uniq {K : PySem.W.Frag} {c : String} {C C' : Addr} (h : ClsAt K c C) (h' : ClsAt K c C') : C = C' := by
  unfold ClsAt at h h'
  rw [h] at h'
  injection h' with h'
  injection h' with h'
  injection h'
/-- at a stands an exception of the class at C -/
def ExcK (C a : Addr) : HO := .ext fun h => ∃ (oe : Obj) (vs : Array Value), h.get? a = some oe ∧ Zc (.ref C) none oe ∧ oe.data = .fields vs
mutual
inductive Rp (K : PySem.W.Frag) (F : Hp) : V → D → Prop
  | non : Rp K F .non .non
  | bl (b : Bool) : Rp K F (.bl b) (.bl b)
  | int (i : Int) : Rp K F (.int i) (.int i)
  | str (x : Str) : Rp K F (.str x) (.str x)
  | ty (n : String) : Rp K F (.ty n) (.ty n)
  | tup {a : Addr} {xs : List V} {ds : List D} : F a = some (.tup xs) → RpAll K F xs ds → Rp K F (.ref a) (.tup ds)
  | lst {a : Addr} {xs : List V} {ds : List D} : F a = some (.lst xs) → RpAll K F xs ds → Rp K F (.ref a) (.lst ds)
  | fix {a : Addr} {xs : List V} {ds : List D} : SqL K F a xs → RpAll K F xs ds → Rp K F (.ref a) (.fix ds)
  | dicK {z : Bool} {o : Obj} {a : Addr} {kvs : List (Key × V)} {es : List (Key × D)} : F a = some (frzIf z o (.dK kvs)) → kvs.map (·.1) = es.map (·.1) → RpAll K F (kvs.map (·.2)) (es.map (·.2)) → Rp K F (.ref a) (.dicK z es)
  | dicT {z : Bool} {o : Obj} {a : Addr} {kvs : List (List Key × V)} {es : List (List Key × D)} : F a = some (frzIf z o (.dT kvs)) → kvs.map (·.1) = es.map (·.1) → RpAll K F (kvs.map (·.2)) (es.map (·.2)) → Rp K F (.ref a) (.dicT z es)
  | dicN {z : Bool} {o : Obj} {a : Addr} {kvs : List (NestedKey × Addr × V)} {es : List (D × D)} : F a = some (frzIf z o (.ext (NDict a kvs))) → kvs.map (fun e => some e.1) = es.map (fun e => nkD e.1) → RpAll K F (kvs.map fun e => V.ref e.2.1) (es.map (·.1)) → RpAll K F (kvs.map fun e => e.2.2) (es.map (·.2)) → Rp K F (.ref a) (.dicN z es)
  | exn {a C : Addr} {c : String} : ClsAt K c C → F a = some (ExcK C a) → Rp K F (.ref a) (.exn c)
  | inst {a C dx : Addr} {c : String} {fs : List (Str × V)} {es : List (Str × D)} : ClsAt K c C → F a = some (.ins C dx fs) → fs.map (·.1) = es.map (·.1) → RpAll K F (fs.map (·.2)) (es.map (·.2)) → Rp K F (.ref a) (.inst c es)
  | tab {a : Addr} {q : Str} {ps : Array Value} : F a = some (.tbl ps) → Rp K F (.ref a) (.tab a q)
  | lnk {a : Addr} : Rp K F (.ref a) (.lnk a)
  | atd {a : Addr} {d : D} : Rp K F (.ref a) d → Rp K F (.ref a) (.atd a d)
inductive RpAll (K : PySem.W.Frag) (F : Hp) : List V → List D → Prop
  | nil : RpAll K F [] []
  | cons {v : V} {vs : List V} {d : D} {ds : List D} : Rp K F v d → RpAll K F vs ds → RpAll K F (v :: vs) (d :: ds)
end

theorem same_seqT {K : PySem.W.Frag} {H H' : Hp} {a : Addr} {xs : List V} (e : Same H H') (h : SqT K H a xs) : SqT K H' a xs := by
  rcases h with (h | ⟨o, h⟩) | h
  · exact .inl (.inl (e _ _ h))
  · exact .inl (.inr ⟨o, e _ _ h⟩)
  · exact .inr h
section
variable {K : PySem.W.Frag} {F F' H H' : Hp}
theorem Rp.mono (e : Same F F') {v : V} {d : D} (h : Rp K F v d) : Rp K F' v d := by
  refine Rp.rec (motive_1 := fun v d _ => Rp K F' v d) (motive_2 := fun vs ds _ => RpAll K F' vs ds) ?_ ?_ ?_ ?_ ?_ ?_ ?_ ?_ ?_ ?_ ?_ ?_ ?_ ?_ ?_ ?_ ?_ ?_ h
  · exact .non
  · exact fun b => .bl b
  · exact fun i => .int i
  · exact fun x => .str x
  · exact fun n => .ty n
  · exact fun h _ r => .tup (e _ _ h) r
  · exact fun h _ r => .lst (e _ _ h) r
  · exact fun h _ r => .fix (e.seq h) r
  · exact fun h k _ r => .dicK (e _ _ h) k r
  · exact fun h k _ r => .dicT (e _ _ h) k r
  · exact fun h k _ _ r q => .dicN (e _ _ h) k r q
  · exact fun k h => .exn k (e _ _ h)
  · exact fun c h k _ r => .inst c (e _ _ h) k r
  · exact fun h => .tab (e _ _ h)
  · exact .lnk
  · exact fun _ r => .atd r
  · exact .nil
  · exact fun _ _ r1 r2 => .cons r1 r2
theorem RpAll.mono (e : Same F F') : ∀ {vs : List V} {ds : List D}, RpAll K F vs ds → RpAll K F' vs ds
  | _, _, .nil => .nil
  | _, _, .cons a b => .cons (a.mono e) (b.mono e)
theorem RpAll.length : ∀ {vs : List V} {ds : List D}, RpAll K F vs ds → vs.length = ds.length
  | _, _, .nil => rfl
  | _, _, .cons _ b => by rw [List.length_cons, List.length_cons, b.length]
theorem RpAll.append : ∀ {vs ws : List V} {ds es : List D}, RpAll K F vs ds → RpAll K F ws es → RpAll K F (vs ++ ws) (ds ++ es)
  | _, _, _, _, .nil, h => h
  | _, _, _, _, .cons a b, h => .cons a (b.append h)
theorem RpAll.snoc {vs : List V} {ds : List D} {v : V} {d : D} (h : RpAll K F vs ds) (q : Rp K F v d) : RpAll K F (vs ++ [v]) (ds ++ [d]) := h.append (.cons q .nil)
theorem RpAll.get : ∀ {vs : List V} {ds : List D} {i : Nat} {d : D}, RpAll K F vs ds → ds[i]? = some d → ∃ v, vs[i]? = some v ∧ Rp K F v d
  | _, _, _, _, .nil, e => by simp at e
  | _, _, 0, _, .cons r _, e => by simp at e; subst e; exact ⟨_, rfl, r⟩
  | _, _, i + 1, d, .cons _ t, e => by
    obtain ⟨u, h1, h2⟩ := RpAll.get (i := i) (d := d) t (by simpa using e)
    exact ⟨u, by simpa using h1, h2⟩
theorem RpAll.set {v : V} {d : D} (r : Rp K F v d) : ∀ {xs : List V} {us : List D} (i : Nat), RpAll K F xs us → RpAll K F (xs.set i v) (us.set i d)
  | _, _, _, .nil => .nil
  | _, _, 0, .cons _ t => .cons r t
  | _, _, i + 1, .cons q t => .cons q (RpAll.set r i t)
theorem RpAll.reverse {vs : List V} {ds : List D} (h : RpAll K F vs ds) : RpAll K F vs.reverse ds.reverse := by
  induction vs generalizing ds with
  | nil => cases h; exact .nil
  | cons v vs ih => cases h with | cons a b => rw [List.reverse_cons, List.reverse_cons]; exact (ih b).snoc a
theorem RpAll.take : ∀ {vs : List V} {ds : List D} (n : Nat), RpAll K F vs ds → RpAll K F (vs.take n) (ds.take n)
  | _, _, 0, _ => .nil
  | _, _, _ + 1, .nil => .nil
  | _, _, n + 1, .cons a b => .cons a (b.take n)
theorem RpAll.drop : ∀ {vs : List V} {ds : List D} (n : Nat), RpAll K F vs ds → RpAll K F (vs.drop n) (ds.drop n)
  | _, _, 0, h => h
  | _, _, _ + 1, .nil => .nil
  | _, _, n + 1, .cons _ b => b.drop n
theorem RpAll.ints : ∀ {vs : List V} {ns : List Int}, RpAll K F vs (ns.map D.int) → vs = ns.map V.int
  | _, [], .nil => rfl
  | _, _ :: _, .cons (.int _) b => by rw [RpAll.ints b]; rfl
theorem RpAll.of_ints : ∀ (ns : List Int), RpAll K F (ns.map V.int) (ns.map D.int)
  | [] => .nil
  | n :: ns => .cons (.int n) (RpAll.of_ints ns)
end

/-- a slot holds nothing, a value, an object of its own, a thing that is only read here and stays as it is, or the exception at a -/
inductive Slot where
  | emp | val (d : D) | own (d : D) | rd (d : D) | adr (a : Addr)
abbrev Rho := List Slot
/-- what an owned object holds -/
inductive Ro (K : PySem.W.Frag) (F : Hp) : Addr → HO → D → Prop
  | lst {p : Addr} {xs : List V} {ds : List D} : RpAll K F xs ds → Ro K F p (.lst xs) (.lst ds)
  | dicK {p : Addr} {z : Bool} {o : Obj} {kvs : List (Key × V)} {es : List (Key × D)} : kvs.map (·.1) = es.map (·.1) → RpAll K F (kvs.map (·.2)) (es.map (·.2)) → Ro K F p (frzIf z o (.dK kvs)) (.dicK z es)
  | dicT {p : Addr} {z : Bool} {o : Obj} {kvs : List (List Key × V)} {es : List (List Key × D)} : kvs.map (·.1) = es.map (·.1) → RpAll K F (kvs.map (·.2)) (es.map (·.2)) → Ro K F p (frzIf z o (.dT kvs)) (.dicT z es)
  | dicN {p : Addr} {z : Bool} {o : Obj} {kvs : List (NestedKey × Addr × V)} {es : List (D × D)} : kvs.map (fun e => some e.1) = es.map (fun e => nkD e.1) → RpAll K F (kvs.map fun e => V.ref e.2.1) (es.map (·.1)) → RpAll K F (kvs.map fun e => e.2.2) (es.map (·.2)) → Ro K F p (frzIf z o (.ext (NDict p kvs))) (.dicN z es)
  | ins {p C dx : Addr} {c : String} {fs : List (Str × V)} {es : List (Str × D)} : ClsAt K c C → fs.map (·.1) = es.map (·.1) → RpAll K F (fs.map (·.2)) (es.map (·.2)) → Ro K F p (.ins C dx fs) (.inst c es)
  | tab {p : Addr} {q : Str} {ps : Array Value} : TriplesOk ps.toList → (∀ (pos : Pos) (cv : Value), codeAmong pos ps.toList = some cv → ∃ c, cv = .ref c ∧ F c = some (LamX.CodeO c q)) → Ro K F p (.tbl ps) (.tab p q)
  | atd {p : Addr} {o : HO} {d : D} : Ro K F p o d → Ro K F p o (.atd p d)
theorem Ro.mono {K : PySem.W.Frag} {F F' : Hp} (e : Same F F') {p : Addr} {o : HO} {d : D} : Ro K F p o d → Ro K F' p o d
  | .lst r => .lst (r.mono e)
  | .dicK k r => .dicK k (r.mono e)
  | .dicT k r => .dicT k (r.mono e)
  | .dicN k r q => .dicN k (r.mono e) (q.mono e)
  | .ins c k r => .ins c k (r.mono e)
  | .tab t k => .tab t fun pos cv h => let ⟨c, e1, e2⟩ := k pos cv h; ⟨c, e1, e _ _ e2⟩
  | .atd r => .atd (r.mono e)

/-- not a tuple: a tuple that is tracked may become known at any time -/
def NTup (o : HO) : Prop := ∀ xs, o ≠ .tup xs
theorem nt_lst {xs : List V} : NTup (.lst xs) := fun _ h => by cases h
theorem Ro.nt {K : PySem.W.Frag} {F : Hp} {p : Addr} {o : HO} {d : D} : Ro K F p o d → NTup o
  | .lst _ => fun _ h => nomatch h
  | .dicK (z := z) _ _ => fun xs h => by cases z <;> exact nomatch h
  | .dicT (z := z) _ _ => fun xs h => by cases z <;> exact nomatch h
  | .dicN (z := z) _ _ _ => fun xs h => by cases z <;> exact nomatch h
  | .ins _ _ _ => fun _ h => nomatch h
  | .tab _ _ => fun _ h => nomatch h
  | .atd r => r.nt

/-- what can be read: a value, or an object that is not frozen -/
def nofx : D → Bool
  | .fix _ => false
  | .lnk _ => false
  | .atd _ d => nofx d
  | _ => true
theorem rp_at {K : PySem.W.Frag} {F : Hp} {p : Addr} : ∀ {d : D}, Rp K F (.ref p) d → nofx d = true → F p = none → False := by
  intro d h n e
  cases h with
  | tup h _ => rw [e] at h; cases h
  | lst h _ => rw [e] at h; cases h
  | fix _ _ => cases n
  | dicK h _ _ => rw [e] at h; cases h
  | dicT h _ _ => rw [e] at h; cases h
  | dicN h _ _ _ => rw [e] at h; cases h
  | exn _ h => rw [e] at h; cases h
  | inst _ h _ _ => rw [e] at h; cases h
  | tab h => rw [e] at h; cases h
  | lnk => cases n
  | atd h => exact rp_at h n e
inductive Ra (K : PySem.W.Frag) (F H : Hp) : V → D → Prop
  | val {v : V} {d : D} : Rp K F v d → nofx d = true → Ra K F H v d
  | own {p : Addr} {o : HO} {d : D} : F p = none → H p = some o → Ro K F p o d → Ra K F H (.ref p) d
inductive SRel (K : PySem.W.Frag) (F H : Hp) : Slot → Option V → Prop
  | emp {o : Option V} : SRel K F H .emp o
  | val {v : V} {d : D} : Rp K F v d → SRel K F H (.val d) (some v)
  | own {p : Addr} {o : HO} {d : D} : F p = none → H p = some o → Ro K F p o d → SRel K F H (.own d) (some (.ref p))
  | rd {v : V} {d : D} : Ra K F H v d → SRel K F H (.rd d) (some v)
  | adr {a : Addr} : SRel K F H (.adr a) (some (.ref a))
theorem Ra.step {K : PySem.W.Frag} {F H F' H' : Hp} {v : V} {d : D} (ex : Same F F') (k : ∀ p u, NTup u → v = .ref p → H p = some u → F p = none → H' p = some u ∧ F' p = none) : Ra K F H v d → Ra K F' H' v d
  | .val r n => .val (r.mono ex) n
  | .own h1 h2 h3 => .own (k _ _ h3.nt rfl h2 h1).2 (k _ _ h3.nt rfl h2 h1).1 (h3.mono ex)
theorem SRel.step {K : PySem.W.Frag} {F H F' H' : Hp} {s : Slot} {o : Option V} (ex : Same F F') (k : ∀ p u, NTup u → o = some (.ref p) → H p = some u → F p = none → H' p = some u ∧ F' p = none) : SRel K F H s o → SRel K F' H' s o
  | .emp => .emp
  | .val r => .val (r.mono ex)
  | .own h1 h2 h3 => .own (k _ _ h3.nt rfl h2 h1).2 (k _ _ h3.nt rfl h2 h1).1 (h3.mono ex)
  | .rd r => .rd (r.step ex fun p u n e => k p u n (by rw [e]))
  | .adr => .adr
def Own (ρ : Rho) (σ : L2.St) (p : Addr) : Prop := ∃ (i : Nat) (d : D), ρ[i]? = some (Slot.own d) ∧ σ[i]? = some (some (V.ref p))
structure Rel (K : PySem.W.Frag) (F H : Hp) (ρ : Rho) (σ : L2.St) : Prop where
  ex : Same F H
  len : ρ.length = σ.length
  at' : ∀ (i : Nat) (s : Slot) (o : Option V), ρ[i]? = some s → σ[i]? = some o → SRel K F H s o
  dis : ∀ (i j : Nat) (d e : D) (p : Addr), ρ[i]? = some (Slot.own d) → ρ[j]? = some (Slot.own e) → σ[i]? = some (some (V.ref p)) → σ[j]? = some (some (V.ref p)) → i = j
  rdis : ∀ (i : Nat) (d : D) (p : Addr), ρ[i]? = some (Slot.rd d) → σ[i]? = some (some (V.ref p)) → ¬ Own ρ σ p
structure Go (K : PySem.W.Frag) (ρ : Rho) (σ : L2.St) (F H : Hp) (ρ' : Rho) (σ' : L2.St) (F' H' : Hp) : Prop where
  rel : Rel K F' H' ρ' σ'
  ex : Same F F'
  keep : ∀ a o, H a = some o → F a = none → ¬ Own ρ σ a → H' a = some o ∧ (NTup o → F' a = none)
  own : ∀ p, Own ρ' σ' p → Own ρ σ p ∨ H p = none
  low : σ'[0]? = σ[0]?
  lowO : ∀ d : D, ρ[0]? = some (Slot.own d) → ∃ d' : D, ρ'[0]? = some (Slot.own d')
  rdb : ∀ (i : Nat) (d : D), ρ'[i]? = some (Slot.rd d) → ρ[i]? = some (Slot.rd d) ∧ σ'[i]? = σ[i]?
section
variable {K : PySem.W.Frag} {F H F1 H1 F2 H2 : Hp} {ρ ρ1 ρ2 : Rho} {σ σ1 σ2 : L2.St}
theorem Go.refl (r : Rel K F H ρ σ) : Go K ρ σ F H ρ σ F H := ⟨r, Same.refl F, fun _ _ h1 h2 _ => ⟨h1, fun _ => h2⟩, fun _ h => .inl h, rfl, fun d h => ⟨d, h⟩, fun _ _ h => ⟨h, rfl⟩⟩
theorem Go.trans (r : Rel K F H ρ σ) (a : Go K ρ σ F H ρ1 σ1 F1 H1) (b : Go K ρ1 σ1 F1 H1 ρ2 σ2 F2 H2) : Go K ρ σ F H ρ2 σ2 F2 H2 where
  rel := b.rel
  ex := a.ex.trans b.ex
  keep := fun p o h1 h2 h3 => by
    obtain ⟨q1, q2⟩ := a.keep p o h1 h2 h3
    have no : ¬ Own ρ1 σ1 p := fun z => by
      rcases a.own p z with z | z
      · exact h3 z
      · rw [h1] at z; cases z
    cases qf : F1 p with
    | none =>
      obtain ⟨k1, k2⟩ := b.keep p o q1 qf no
      exact ⟨k1, k2⟩
    | some u =>
      have e1 := a.rel.ex p u qf
      rw [q1] at e1
      cases e1
      exact ⟨b.rel.ex p o (b.ex p o qf), fun n => by rw [q2 n] at qf; cases qf⟩
  own := fun p h => by
    rcases b.own p h with h | h
    · exact a.own p h
    · cases q : H p with
      | none => exact .inr rfl
      | some o =>
        refine .inl ?_
        cases qf : F p with
        | some u =>
          have := (a.rel.ex) p u (a.ex p u qf)
          rw [h] at this; cases this
        | none =>
          refine Classical.byContradiction fun z => ?_
          have := (a.keep p o q qf z).1
          rw [h] at this; cases this
  low := b.low.trans a.low
  lowO := fun d h => by
    obtain ⟨d1, h1⟩ := a.lowO d h
    exact b.lowO d1 h1
  rdb := fun i d h => by
    obtain ⟨h1, h2⟩ := b.rdb i d h
    obtain ⟨h3, h4⟩ := a.rdb i d h1
    exact ⟨h3, h2.trans h4⟩
/-- all that was known is as it was -/
theorem Go.sameH (r : Rel K F H ρ σ) (a : Go K ρ σ F H ρ1 σ1 F1 H1) {p : Addr} {o : HO} (h : H p = some o) (hn : ¬ Own ρ σ p) : H1 p = some o := by
  cases qf : F p with
  | some u =>
    have e1 := r.ex p u qf
    rw [h] at e1
    cases e1
    exact a.rel.ex p o (a.ex p o qf)
  | none => exact (a.keep p o h qf hn).1
theorem Rel.val {i : Nat} {d : D} (r : Rel K F H ρ σ) (h : ρ[i]? = some (.val d)) : ∃ v, σ[i]? = some (some v) ∧ Rp K F v d := by
  have hi : i < ρ.length := by
    cases Nat.lt_or_ge i ρ.length with
    | inl z => exact z
    | inr z => rw [List.getElem?_eq_none z] at h; cases h
  have hs : i < σ.length := r.len ▸ hi
  have e := r.at' i _ _ h (List.getElem?_eq_getElem hs)
  rw [List.getElem?_eq_getElem hs]
  cases q : σ[i] with
  | none => rw [q] at e; cases e
  | some v => rw [q] at e; cases e with | val e => exact ⟨v, rfl, e⟩
theorem Rel.own {i : Nat} {d : D} (r : Rel K F H ρ σ) (h : ρ[i]? = some (.own d)) : ∃ p o, σ[i]? = some (some (.ref p)) ∧ F p = none ∧ H p = some o ∧ Ro K F p o d := by
  have hi : i < ρ.length := by
    cases Nat.lt_or_ge i ρ.length with
    | inl z => exact z
    | inr z => rw [List.getElem?_eq_none z] at h; cases h
  have hs : i < σ.length := r.len ▸ hi
  have e := r.at' i _ _ h (List.getElem?_eq_getElem hs)
  rw [List.getElem?_eq_getElem hs]
  cases q : σ[i] with
  | none => rw [q] at e; cases e
  | some v => rw [q] at e; cases e with | own e1 e2 e3 => exact ⟨_, _, rfl, e1, e2, e3⟩
end

/-- what slot i holds can be read -/
def rdD (i : Nat) (ρ : Rho) : Option D := match ρ[i]? with
  | some (.own d) => some d
  | some (.rd d) => some d
  | _ => none
theorem Rel.rd {K : PySem.W.Frag} {F H : Hp} {ρ : Rho} {σ : L2.St} {i : Nat} {d : D} (r : Rel K F H ρ σ) (h : rdD i ρ = some d) : ∃ v, σ[i]? = some (some v) ∧ Ra K F H v d := by
  unfold rdD at h
  have look : ∀ s, ρ[i]? = some s → ∃ o, σ[i]? = some o ∧ SRel K F H s o := fun s hs => by
    have hi : i < ρ.length := by
      cases Nat.lt_or_ge i ρ.length with
      | inl z => exact z
      | inr z => rw [List.getElem?_eq_none z] at hs; cases hs
    have hs2 : i < σ.length := r.len ▸ hi
    exact ⟨_, List.getElem?_eq_getElem hs2, r.at' i _ _ hs (List.getElem?_eq_getElem hs2)⟩
  split at h
  · rename_i e
    cases h
    obtain ⟨o, h1, h2⟩ := look _ e
    cases h2 with
    | own a b c => exact ⟨_, h1, .own a b c⟩
  · rename_i e
    cases h
    obtain ⟨o, h1, h2⟩ := look _ e
    cases h2 with
    | rd a => exact ⟨_, h1, a⟩
  · cases h

structure Gr (F H F' H' : Hp) : Prop where
  ex : Same F F'
  exH : Same H H'
  sub : Same F' H'
  keep : ∀ a o, NTup o → H a = some o → F a = none → F' a = none
section
variable {K : PySem.W.Frag} {F H F1 H1 F2 H2 : Hp} {ρ : Rho} {σ : L2.St}
theorem Gr.refl (e : Same F H) : Gr F H F H := ⟨Same.refl F, Same.refl H, e, fun _ _ _ _ h => h⟩
theorem Gr.trans (a : Gr F H F1 H1) (b : Gr F1 H1 F2 H2) : Gr F H F2 H2 := ⟨a.ex.trans b.ex, a.exH.trans b.exH, b.sub, fun p o n h1 h2 => b.keep p o n (a.exH p o h1) (a.keep p o n h1 h2)⟩
theorem SRel.gr {s : Slot} {o : Option V} (g : Gr F H F1 H1) (h : SRel K F H s o) : SRel K F1 H1 s o := h.step g.ex fun p u n _ h1 h2 => ⟨g.exH p u h1, g.keep p u n h1 h2⟩
theorem Ra.gr {v : V} {d : D} (g : Gr F H F1 H1) (h : Ra K F H v d) : Ra K F1 H1 v d := h.step g.ex fun p u n _ h1 h2 => ⟨g.exH p u h1, g.keep p u n h1 h2⟩
theorem Rel.gr (g : Gr F H F1 H1) (r : Rel K F H ρ σ) : Rel K F1 H1 ρ σ := ⟨g.sub, r.len, fun i s o h1 h2 => (r.at' i s o h1 h2).gr g, r.dis, r.rdis⟩
theorem Gr.go (g : Gr F H F1 H1) (r : Rel K F H ρ σ) : Go K ρ σ F H ρ σ F1 H1 := ⟨r.gr g, g.ex, fun p o h1 h2 _ => ⟨g.exH p o h1, fun n => g.keep p o n h1 h2⟩, fun _ h => .inl h, rfl, fun d h => ⟨d, h⟩, fun _ _ h => ⟨h, rfl⟩⟩
/-- a new frozen object -/
theorem Gr.new {p : Addr} {o : HO} (e : Same F H) (hp : H p = none) : Gr F H (upd F p o) (upd H p o) := by
  have hf : F p = none := e.free hp
  refine ⟨fun b u h => by rw [upd_ne (ne_of_none h hf)]; exact h, fun b u h => by rw [upd_ne (ne_of_none h hp)]; exact h, fun b u h => ?_, fun a u _ h1 h2 => by rw [upd_ne (ne_of_none h1 hp)]; exact h2⟩
  by_cases hb : b = p
  · subst hb; rw [upd_same] at h ⊢; exact h
  · rw [upd_ne hb] at h ⊢; exact e b u h
/-- a new object, not frozen -/
theorem Gr.newO {p : Addr} {o : HO} (e : Same F H) (hp : H p = none) : Gr F H F (upd H p o) := by
  refine ⟨Same.refl F, fun b u h => by rw [upd_ne (ne_of_none h hp)]; exact h, fun b u h => by rw [upd_ne (ne_of_none (e b u h) hp)]; exact e b u h, fun a u _ h1 h2 => h2⟩
end

inductive Res (α : Type) where
  | ok (a : α) (ρ : Rho) | exc (c : String) (ρ : Rho) | bad
def Res.bind {α β : Type} (r : Res α) (f : α → Rho → Res β) : Res β := match r with
  | .ok a ρ => f a ρ
  | .exc c ρ => .exc c ρ
  | .bad => .bad
abbrev XV := Rho → Res D
abbrev XT := Rho → Res Bool
abbrev XA := Rho → Res (List D)
/-- the wish of exceptions -/
abbrev EW := String → L2.St → Hp → Prop

section
variable (K : PySem.W.Frag) (E : EW)
/-- what is asked of an expression that does t -/
def Pend {α : Type} (t : Rho → Res α) (ρ : Rho) (σ : L2.St) (F H : Hp) (Q : α → Rho → Hp → Hp → Prop) : Prop := match t ρ with
  | .ok a ρ' => ∀ F' H', Go K ρ σ F H ρ' σ F' H' → Q a ρ' F' H'
  | .exc c ρ' => ∀ F' H', Go K ρ σ F H ρ' σ F' H' → E c σ H'
  | .bad => False
def lE (t : XV) : TE := fun σ H Q => ∃ F ρ, Rel K F H ρ σ ∧ Pend K E t ρ σ F H fun d _ F' H' => ∀ v, Rp K F' v d → Q v H'
def lT (t : XT) : TT := fun σ H Q => ∃ F ρ, Rel K F H ρ σ ∧ Pend K E t ρ σ F H fun b _ _ H' => Q b H'
def lA (t : XA) : TA := fun σ H Q => ∃ F ρ, Rel K F H ρ σ ∧ Pend K E t ρ σ F H fun ds _ F' H' => ∀ vs, RpAll K F' vs ds → Q vs H'
/-- a new object: it is known, not frozen, owned by none -/
def lN (t : XV) : TE := fun σ H Q => ∃ F ρ, Rel K F H ρ σ ∧ Pend K E t ρ σ F H fun d ρ' F' H' => ∀ p o, F' p = none → H' p = some o → Ro K F' p o d → ¬ Own ρ' σ p → (Own ρ σ p ∨ H p = none) → Q (.ref p) H'
end
section
variable {K : PySem.W.Frag} {E : EW} {σ : L2.St} {F H : Hp} {ρ : Rho}
theorem Pend.mono {α : Type} {t : Rho → Res α} {Q Q' : α → Rho → Hp → Hp → Prop} (h : Pend K E t ρ σ F H Q) (k : ∀ a ρ' F' H', Go K ρ σ F H ρ' σ F' H' → Q a ρ' F' H' → Q' a ρ' F' H') : Pend K E t ρ σ F H Q' := by
  unfold Pend at h ⊢
  split <;> rename_i e <;> rw [e] at h
  · exact fun F' H' g => k _ _ _ _ g (h F' H' g)
  · exact h
  · exact h
/-- one after another -/
theorem Pend.bind {α β : Type} {t : Rho → Res α} {f : α → Rho → Res β} {Q : β → Rho → Hp → Hp → Prop} (r : Rel K F H ρ σ) (h : Pend K E (fun ρ => (t ρ).bind f) ρ σ F H Q) :
    Pend K E t ρ σ F H fun a ρ1 F1 H1 => Pend K E (f a) ρ1 σ F1 H1 Q := by
  unfold Pend at h ⊢
  split <;> rename_i e <;> simp only [e, Res.bind] at h
  · intro F1 H1 g
    split <;> rename_i e2 <;> rw [e2] at h
    · exact fun F2 H2 g2 => h F2 H2 (g.trans r g2)
    · exact fun F2 H2 g2 => h F2 H2 (g.trans r g2)
    · exact h
  · exact h
theorem Pend.ok {α : Type} {a : α} {ρ' : Rho} {t : Rho → Res α} {Q : α → Rho → Hp → Hp → Prop} (h : Pend K E t ρ σ F H Q) (e : t ρ = .ok a ρ') : ∀ F' H', Go K ρ σ F H ρ' σ F' H' → Q a ρ' F' H' := by
  unfold Pend at h
  rw [e] at h
  exact h
end
end G


namespace G
open PySem PySem.Spec PyProof.Rows L2

section
variable {X : Cx}
theorem pe_imp {e : Expr} {t t' : TE} (h : PE X e t) (k : ∀ σ H Q, t' σ H Q → t σ H Q) : PE X e t' := ⟨fun pins s σ H Q I q => h.run pins s σ H Q I (k σ H Q q)⟩
theorem pt_imp {e : Expr} {t t' : TT} (h : PT X e t) (k : ∀ σ H Q, t' σ H Q → t σ H Q) : PT X e t' := ⟨fun pins s σ H Q I q => h.run pins s σ H Q I (k σ H Q q)⟩
theorem pa_imp {e : List Expr} {t t' : TA} (h : PA X e t) (k : ∀ σ H Q, t' σ H Q → t σ H Q) : PA X e t' := ⟨fun pos pins s σ H Q I q => h.run pos pins s σ H Q I (k σ H Q q)⟩
theorem ps_imp {e : Stmt} {t t' : TS} (h : PS X e t) (k : ∀ D σ H, t' D σ H → t D σ H) : PS X e t' := ⟨fun pins s σ H D I q => h.run pins s σ H D I (k D σ H q)⟩
theorem pss_imp {e : List Stmt} {t t' : TS} (h : PSs X e t) (k : ∀ D σ H, t' D σ H → t D σ H) : PSs X e t' := ⟨fun pins s σ H D I q => h.run pins s σ H D I (k D σ H q)⟩
end
section
variable {K : PySem.W.Frag} {E : EW} {σ : L2.St} {F H : Hp} {ρ : Rho}
theorem ro_nofx : ∀ {p : Addr} {o : HO} {d : D}, Ro K F p o d → nofx d = true
  | _, _, _, .lst _ => rfl
  | _, _, _, .dicK _ _ => rfl
  | _, _, _, .dicT _ _ => rfl
  | _, _, _, .dicN _ _ _ => rfl
  | _, _, _, .ins _ _ _ => rfl
  | _, _, _, .tab _ _ => rfl
  | _, _, .atd _ d, .atd r => by have := ro_nofx r; exact this
theorem ro_rp : ∀ {p : Addr} {o : HO} {d : D}, F p = none → Ro K F p o d → Rp K (upd F p o) (.ref p) d
  | p, o, d, hf, ro => by
    have hs : Same F (upd F p o) := fun b u q => by rw [upd_ne (ne_of_none q hf)]; exact q
    cases ro with
    | lst r => exact .lst upd_same (r.mono hs)
    | dicK k r => exact .dicK upd_same k (r.mono hs)
    | dicT k r => exact .dicT upd_same k (r.mono hs)
    | dicN k r q2 => exact .dicN upd_same k (r.mono hs) (q2.mono hs)
    | ins c k r => exact .inst c upd_same k (r.mono hs)
    | tab _ _ => exact .tab upd_same
    | atd r => exact .atd (ro_rp hf r)
/-- a new object, taken as it is -/
theorem lE_of_lN {t : XV} {Q : VK} (h : lE K E t σ H Q) : lN K E t σ H Q := by
  obtain ⟨F, ρ, r, p⟩ := h
  refine ⟨F, ρ, r, ?_⟩
  unfold Pend at p ⊢
  split <;> rename_i e <;> rw [e] at p
  · rename_i d ρ'
    intro F1 H1 g a o hf hh ro hn hw
    refine p (upd F1 a o) H1 ?_ (.ref a) ?_
    · refine ⟨⟨fun b u q => ?_, g.rel.len, fun i s v h1 h2 => ?_, g.rel.dis, g.rel.rdis⟩, fun b u q => ?_, fun b u h1 h2 h3 => ?_, g.own, g.low, g.lowO, g.rdb⟩
      · by_cases hb : b = a
        · subst hb; rw [upd_same] at q; rw [hh]; exact q
        · rw [upd_ne hb] at q; exact g.rel.ex b u q
      · have hs : Same F1 (upd F1 a o) := fun b u q => by rw [upd_ne (ne_of_none q hf)]; exact q
        have z := g.rel.at' i s v h1 h2
        cases z with
        | emp => exact .emp
        | adr => exact .adr
        | val rp => exact .val (rp.mono hs)
        | own z1 z2 z3 =>
          refine .own ?_ z2 (z3.mono hs)
          rw [upd_ne]
          · exact z1
          · rintro rfl
            exact hn ⟨i, _, h1, h2⟩
        | rd ra =>
          cases ra with
          | val rp nf => exact .rd (.val (rp.mono hs) nf)
          | @own p u _ z1 z2 z3 =>
            by_cases hp : p = a
            · subst hp
              rw [hh] at z2
              cases z2
              exact .rd (.val (ro_rp hf z3) (ro_nofx z3))
            · exact .rd (.own (by rw [upd_ne hp]; exact z1) z2 (z3.mono hs))
      · have q' := g.ex b u q
        rw [upd_ne (ne_of_none q' hf)]
        exact q'
      · obtain ⟨q1, q2⟩ := g.keep b u h1 h2 h3
        refine ⟨q1, ?_⟩
        rw [upd_ne]
        · exact q2
        · rintro rfl
          rcases hw with hw | hw
          · exact h3 hw
          · rw [h1] at hw; cases hw
    · exact ro_rp hf ro
  · exact p
  · exact p
end
section
variable {X : Cx} {E : EW} {a b : Expr} {pos : Pos} {ta tb : XV}
theorem of_new {e : Expr} {t : XV} (h : PE X e (lN X.K E t)) : PE X e (lE X.K E t) := pe_imp h fun _ _ _ q => lE_of_lN q

def xVar (i : Nat) : XV := fun ρ => match ρ[i]? with
  | some (.val d) => .ok d ρ
  | _ => .bad
def xC (d : D) : XV := fun ρ => .ok d ρ
/-- an owned name, given away -/
def xTake (i : Nat) : XV := fun ρ => match ρ[i]? with
  | some (.own d) => .ok d (ρ.set i .emp)
  | _ => .bad
theorem xe_var (i : Nat) {x : Str} (hN : X.N[i]? = some x := by rfl) (hv : Vis X.env.scope x := by first | exact Or.inl rfl | exact Or.inr (Or.inl rfl) | exact Or.inr (Or.inr rfl)) (hd : (x == ("__debug__" : Str)) = false := by decide)
    (hcd : (x == ("__classdict__" : Str)) = false := by decide) : PE X (.Name x pos) (lE X.K E (xVar i)) := by
  refine pe_imp (pe_var hN hv hd hcd) fun σ H Q h => ?_
  obtain ⟨F, ρ, r, p⟩ := h
  unfold Pend xVar at p
  split at p <;> rename_i e
  · split at e
    · rename_i q
      cases e
      obtain ⟨v, h1, h2⟩ := r.val q
      exact ⟨v, h1, p F H (Go.refl r) v h2⟩
    · cases e
  · split at e <;> cases e
  · exact p.elim
theorem xe_const {e : Expr} {v : V} {d : D} (h : PE X e (tC v)) (hr : ∀ F, Rp X.K F v d) : PE X e (lE X.K E (xC d)) := by
  refine pe_imp h fun σ H Q h => ?_
  obtain ⟨F, ρ, r, p⟩ := h
  exact p F H (Go.refl r) v (hr F)
theorem xe_int {i : Int} {j : Nat} : PE X (.Constant (.int i) j pos) (lE X.K E (xC (.int i))) := xe_const pe_int fun _ => .int i
theorem xe_bl {i : Bool} {j : Nat} : PE X (.Constant (.bool i) j pos) (lE X.K E (xC (.bl i))) := xe_const pe_bl fun _ => .bl i
theorem xe_str {i : Str} {j : Nat} : PE X (.Constant (.str i) j pos) (lE X.K E (xC (.str i))) := xe_const pe_str fun _ => .str i
theorem xe_non {j : Nat} : PE X (.Constant .none j pos) (lE X.K E (xC .non)) := xe_const pe_non fun _ => .non
theorem xn_take (i : Nat) {x : Str} (h0 : i ≠ 0 := by decide) (hN : X.N[i]? = some x := by rfl) (hv : Vis X.env.scope x := by first | exact Or.inl rfl | exact Or.inr (Or.inl rfl) | exact Or.inr (Or.inr rfl)) (hd : (x == ("__debug__" : Str)) = false := by decide)
    (hcd : (x == ("__classdict__" : Str)) = false := by decide) : PE X (.Name x pos) (lN X.K E (xTake i)) := by
  refine pe_imp (pe_var hN hv hd hcd) fun σ H Q h => ?_
  obtain ⟨F, ρ, r, p⟩ := h
  unfold Pend xTake at p
  split at p <;> rename_i e
  · split at e
    · rename_i d q
      injection e with e1 e2
      subst e1 e2
      obtain ⟨b, o, h1, h2, h3, h4⟩ := r.own q
      have hi : i < ρ.length := by
        cases Nat.lt_or_ge i ρ.length with
        | inl z => exact z
        | inr z => rw [List.getElem?_eq_none z] at q; cases q
      have sub : ∀ p, Own (ρ.set i .emp) σ p → Own ρ σ p ∧ (σ[i]? = some (some (V.ref p)) → False) := by
        rintro c ⟨j, e, z1, z2⟩
        have hj : i ≠ j := by
          rintro rfl
          rw [List.getElem?_set_self hi] at z1; cases z1
        rw [List.getElem?_set_ne hj] at z1
        exact ⟨⟨j, e, z1, z2⟩, fun z => hj (r.dis i j d e c q z1 z z2)⟩
      have rdn : ∀ (j : Nat) (d : D), (ρ.set i .emp)[j]? = some (.rd d) → ρ[j]? = some (.rd d) := fun j d z => by
        by_cases hj : i = j
        · subst hj
          rw [List.getElem?_set_self hi] at z; cases z
        · rw [List.getElem?_set_ne hj] at z; exact z
      refine ⟨.ref b, h1, p F H ⟨⟨r.ex, by rw [List.length_set]; exact r.len, fun j s v z1 z2 => ?_, fun j k d1 d2 c z1 z2 z3 z4 => ?_, fun j d c z1 z2 z3 => r.rdis j d c (rdn j d z1) z2 (sub c z3).1⟩, Same.refl F, fun _ _ q1 q2 _ => ⟨q1, fun _ => q2⟩, fun c z => .inl (sub c z).1, rfl, fun d z => ⟨d, by rw [List.getElem?_set_ne h0]; exact z⟩, fun j d z => ⟨rdn j d z, rfl⟩⟩ b o h2 h3 h4 (fun z => (sub b z).2 h1) (.inl ⟨i, d, q, h1⟩)⟩
      · by_cases hj : i = j
        · subst hj
          rw [List.getElem?_set_self hi] at z1
          cases z1
          exact .emp
        · rw [List.getElem?_set_ne hj] at z1
          exact r.at' j s v z1 z2
      · have g1 : i ≠ j := by
          rintro rfl
          rw [List.getElem?_set_self hi] at z1; cases z1
        have g2 : i ≠ k := by
          rintro rfl
          rw [List.getElem?_set_self hi] at z2; cases z2
        rw [List.getElem?_set_ne g1] at z1
        rw [List.getElem?_set_ne g2] at z2
        exact r.dis j k d1 d2 c z1 z2 z3 z4
    · cases e
  · split at e <;> cases e
  · exact p.elim

/-- what comes out: a value, or a new object -/
def OutV (K : PySem.W.Frag) (F H : Hp) (d : D) (Q : VK) : Prop := ∀ v F' H', Gr F H F' H' → Rp K F' v d → Q v H'
def OutN (K : PySem.W.Frag) (F H : Hp) (d : D) (Q : VK) : Prop := ∀ p o F' H', Gr F H F' H' → H p = none → F' p = none → H' p = some o → Ro K F' p o d → Q (.ref p) H'
theorem OutV.n {K : PySem.W.Frag} {F H : Hp} {d : D} {Q : VK} (h : OutV K F H d Q) : OutN K F H d Q := fun p o F' H' g hp hf hh ro => by
  have hs : Same F' (upd F' p o) := fun b u q => by rw [upd_ne (ne_of_none q hf)]; exact q
  refine h (.ref p) (upd F' p o) H' ⟨g.ex.trans hs, g.exH, fun b u q => ?_, fun b u hn h1 h2 => ?_⟩ ?_
  · by_cases hb : b = p
    · subst hb; rw [upd_same] at q; rw [hh]; exact q
    · rw [upd_ne hb] at q; exact g.sub b u q
  · rw [upd_ne (ne_of_none h1 hp)]; exact g.keep b u hn h1 h2
  · exact ro_rp hf ro
theorem OutV.here {K : PySem.W.Frag} {F H : Hp} {d : D} {Q : VK} {v : V} (h : OutV K F H d Q) (e : Same F H) (r : Rp K F v d) : Q v H := h v F H (Gr.refl e) r
theorem OutV.new {K : PySem.W.Frag} {F H : Hp} {d : D} {Q : VK} {p : Addr} {o : HO} (h : OutV K F H d Q) (e : Same F H) (hp : H p = none) (r : Rp K (upd F p o) (.ref p) d) : Q (.ref p) (upd H p o) := h _ _ _ (Gr.new e hp) r
theorem OutN.new {K : PySem.W.Frag} {F H : Hp} {d : D} {Q : VK} {p : Addr} {o : HO} (h : OutN K F H d Q) (e : Same F H) (hp : H p = none) (r : Ro K F p o d) : Q (.ref p) (upd H p o) := h p o _ _ (Gr.newO e hp) hp (e.free hp) upd_same r

def Imp1 (K : PySem.W.Frag) (f : D → Option D) (r : V → Hp → VK → Prop) : Prop := ∀ F H v x d Q, Same F H → Rp K F v x → f x = some d → OutV K F H d Q → r v H Q
def Imp2 (K : PySem.W.Frag) (f : D → D → Option D) (r : R2) : Prop := ∀ F H v w x y d Q, Same F H → Rp K F v x → Rp K F w y → f x y = some d → OutV K F H d Q → r v w H Q
def Imp2N (K : PySem.W.Frag) (f : D → D → Option D) (r : R2) : Prop := ∀ F H v w x y d Q, Same F H → Rp K F v x → Rp K F w y → f x y = some d → OutN K F H d Q → r v w H Q
def ImpL (K : PySem.W.Frag) (f : List D → Option D) (r : List V → Hp → VK → Prop) : Prop := ∀ F H vs ds d Q, Same F H → RpAll K F vs ds → f ds = some d → OutV K F H d Q → r vs H Q
def lift {α β : Type} (f : α → Option β) : α → Rho → Res β := fun a ρ => match f a with
  | some b => .ok b ρ
  | none => .bad
def xOp1 (f : D → Option D) (ta : XV) : XV := fun ρ => (ta ρ).bind (lift f)
def xOp2 (f : D → D → Option D) (ta tb : XV) : XV := fun ρ => (ta ρ).bind fun x ρ1 => (tb ρ1).bind (lift (f x))
def xOpL (f : List D → Option D) (ta : XA) : XV := fun ρ => (ta ρ).bind (lift f)
theorem Pend.lift {α β : Type} {K : PySem.W.Frag} {σ : L2.St} {F H : Hp} {ρ : Rho} {f : α → Option β} {x : α} {Q : β → Rho → Hp → Hp → Prop} (h : Pend K E (lift f x) ρ σ F H Q) : ∃ d, f x = some d ∧ ∀ F' H', Go K ρ σ F H ρ σ F' H' → Q d ρ F' H' := by
  unfold Pend G.lift at h
  cases q : f x with
  | none => rw [q] at h; exact h.elim
  | some d => rw [q] at h; exact ⟨d, rfl, h⟩
/-- the last step's end -/
theorem outV_of {K : PySem.W.Frag} {σ : L2.St} {F H : Hp} {ρ : Rho} {d : D} {Q : VK} (r : Rel K F H ρ σ) (h : ∀ F' H', Go K ρ σ F H ρ σ F' H' → ∀ v, Rp K F' v d → Q v H') : OutV K F H d Q := fun v F' H' g rv => h F' H' (g.go r) v rv
theorem not_own_new {K : PySem.W.Frag} {σ : L2.St} {F H : Hp} {ρ : Rho} {p : Addr} (r : Rel K F H ρ σ) (hp : H p = none) : ¬ Own ρ σ p := fun ⟨i, d, h1, h2⟩ => by
  obtain ⟨b, o, e1, _, e3, _⟩ := r.own h1
  rw [h2] at e1
  cases e1
  rw [hp] at e3; cases e3
theorem outN_of {K : PySem.W.Frag} {σ : L2.St} {F0 H0 F H : Hp} {ρ0 ρ : Rho} {d : D} {Q : VK} (r0 : Rel K F0 H0 ρ0 σ) (g0 : Go K ρ0 σ F0 H0 ρ σ F H) (h : ∀ F' H', Go K ρ σ F H ρ σ F' H' → ∀ p o, F' p = none → H' p = some o → Ro K F' p o d → ¬ Own ρ σ p → (Own ρ0 σ p ∨ H0 p = none) → Q (.ref p) H') : OutN K F H d Q :=
  fun p o F' H' g hp hf hh ro => h F' H' (g.go g0.rel) p o hf hh ro (not_own_new g0.rel hp) (by
    cases q : H0 p with
    | none => exact .inr rfl
    | some u =>
      by_cases hw : Own ρ0 σ p
      · exact .inl hw
      · have := g0.sameH r0 q hw
        rw [hp] at this; cases this)
theorem xe_op2R {op : Operator} {f : D → D → Option D} {r : R2} (ho : OpR X (binaryOp op) r) (hi : Imp2 X.K f r) (ha : PE X a (lE X.K E ta)) (hb : PE X b (lE X.K E tb)) : PE X (.BinOp a op b pos) (lE X.K E (xOp2 f ta tb)) := by
  refine pe_imp (pe_op ho ha hb) fun σ H Q h => ?_
  obtain ⟨F, ρ, r, p⟩ := h
  refine ⟨F, ρ, r, (Pend.bind r p).mono fun x ρ1 F1 H1 g1 q v rv => ⟨F1, ρ1, g1.rel, (Pend.bind g1.rel q).mono fun y ρ2 F2 H2 g2 q w rw => ?_⟩⟩
  obtain ⟨d, e, q⟩ := q.lift
  exact hi F2 H2 v w x y d Q g2.rel.ex (rv.mono g2.ex) rw e (outV_of g2.rel q)
theorem xn_op2R {op : Operator} {f : D → D → Option D} {r : R2} (ho : OpR X (binaryOp op) r) (hi : Imp2N X.K f r) (ha : PE X a (lE X.K E ta)) (hb : PE X b (lE X.K E tb)) : PE X (.BinOp a op b pos) (lN X.K E (xOp2 f ta tb)) := by
  refine pe_imp (pe_op ho ha hb) fun σ H Q h => ?_
  obtain ⟨F, ρ, r, p⟩ := h
  refine ⟨F, ρ, r, (Pend.bind r p).mono fun x ρ1 F1 H1 g1 q v rv => ⟨F1, ρ1, g1.rel, (Pend.bind g1.rel q).mono fun y ρ2 F2 H2 g2 q w rw => ?_⟩⟩
  obtain ⟨d, e, q⟩ := q.lift
  exact hi F2 H2 v w x y d Q g2.rel.ex (rv.mono g2.ex) rw e (outN_of r (g1.trans r g2) q)
theorem xe_un {op : UnaryOp} {f : D → Option D} {r : V → Hp → VK → Prop} (ho : UnR X (unaryOp op) r) (hi : Imp1 X.K f r) (ha : PE X a (lE X.K E ta)) : PE X (.UnaryOp op a pos) (lE X.K E (xOp1 f ta)) := by
  refine pe_imp (pe_un ho ha) fun σ H Q h => ?_
  obtain ⟨F, ρ, r, p⟩ := h
  refine ⟨F, ρ, r, (Pend.bind r p).mono fun x ρ1 F1 H1 g1 q v rv => ?_⟩
  obtain ⟨d, e, q⟩ := q.lift
  exact hi F1 H1 v x d Q g1.rel.ex rv e (outV_of g1.rel q)
theorem xe_cmp {op : CmpOp} {f : D → D → Option D} {r : R2} (ho : OpR X (compareOp op) r) (hi : Imp2 X.K f r) (ha : PE X a (lE X.K E ta)) (hb : PE X b (lE X.K E tb)) (hm : behindInMarks op b = false) : PE X (.Compare a [op] [b] pos) (lE X.K E (xOp2 f ta tb)) := by
  refine pe_imp (pe_cmpR ho ha hb hm) fun σ H Q h => ?_
  obtain ⟨F, ρ, r, p⟩ := h
  refine ⟨F, ρ, r, (Pend.bind r p).mono fun x ρ1 F1 H1 g1 q v rv => ⟨F1, ρ1, g1.rel, (Pend.bind g1.rel q).mono fun y ρ2 F2 H2 g2 q w rw => ?_⟩⟩
  obtain ⟨d, e, q⟩ := q.lift
  exact hi F2 H2 v w x y d Q g2.rel.ex (rv.mono g2.ex) rw e (outV_of g2.rel q)
theorem xe_ixR {f : D → D → Option D} {r : R2} (ho : IxR X r) (hi : Imp2 X.K f r) (ha : PE X a (lE X.K E ta)) (hb : PE X b (lE X.K E tb)) (hs : PlainIx b) : PE X (.Subscript a b pos) (lE X.K E (xOp2 f ta tb)) := by
  refine pe_imp (pe_ix ho ha hb hs) fun σ H Q h => ?_
  obtain ⟨F, ρ, r, p⟩ := h
  refine ⟨F, ρ, r, (Pend.bind r p).mono fun x ρ1 F1 H1 g1 q v rv => ⟨F1, ρ1, g1.rel, (Pend.bind g1.rel q).mono fun y ρ2 F2 H2 g2 q w rw => ?_⟩⟩
  obtain ⟨d, e, q⟩ := q.lift
  exact hi F2 H2 v w x y d Q g2.rel.ex (rv.mono g2.ex) rw e (outV_of g2.rel q)

def xNil : XA := fun ρ => .ok [] ρ
def xCons (ta : XV) (tr : XA) : XA := fun ρ => (ta ρ).bind fun x ρ1 => (tr ρ1).bind fun xs ρ2 => .ok (x :: xs) ρ2
theorem xa_nil : PA X [] (lA X.K E xNil) := pa_imp pa_nil fun σ H Q h => by
  obtain ⟨F, ρ, r, p⟩ := h
  exact p F H (Go.refl r) [] .nil
theorem xa_cons {e : Expr} {es : List Expr} {tr : XA} (ha : PE X e (lE X.K E ta)) (hr : PA X es (lA X.K E tr)) (hs : starEach (e :: es) X.env = (false, eval e X.env) :: starEach es X.env := by rfl) : PA X (e :: es) (lA X.K E (xCons ta tr)) := by
  refine pa_imp (pa_cons ha hr hs) fun σ H Q h => ?_
  obtain ⟨F, ρ, r, p⟩ := h
  refine ⟨F, ρ, r, (Pend.bind r p).mono fun x ρ1 F1 H1 g1 q v rv => ⟨F1, ρ1, g1.rel, (Pend.bind g1.rel q).mono fun xs ρ2 F2 H2 g2 q vs rs => ?_⟩⟩
  exact q F2 H2 (Go.refl g2.rel) (v :: vs) (.cons (rv.mono g2.ex) rs)
def dTup (ds : List D) : Option D := if ds.length ≤ sizeLine then some (.tup ds) else none
def dLst (ds : List D) : Option D := if ds.length ≤ sizeLine then some (.lst ds) else none
theorem xe_tup {es : List Expr} {t : XA} {k : Nat} (h : PA X es (lA X.K E t)) : PE X (.Tuple es k pos) (lE X.K E (xOpL dTup t)) := by
  refine pe_imp (pe_tup h) fun σ H Q h => ?_
  obtain ⟨F, ρ, r, p⟩ := h
  refine ⟨F, ρ, r, (Pend.bind r p).mono fun xs ρ1 F1 H1 g1 q vs rs => ?_⟩
  obtain ⟨d, e, q⟩ := q.lift
  unfold dTup at e
  split at e
  · cases e
    rename_i hl
    refine ⟨by rw [rs.length]; exact hl, fun b hb => ?_⟩
    exact (outV_of g1.rel q).new g1.rel.ex hb (.tup upd_same (rs.mono (Gr.new (o := .tup vs) g1.rel.ex hb).ex))
  · cases e
theorem xn_lst {es : List Expr} {t : XA} (h : PA X es (lA X.K E t)) : PE X (.List es pos) (lN X.K E (xOpL dLst t)) := by
  refine pe_imp (pe_lst h) fun σ H Q h => ?_
  obtain ⟨F, ρ, r, p⟩ := h
  refine ⟨F, ρ, r, (Pend.bind r p).mono fun xs ρ1 F1 H1 g1 q vs rs => ?_⟩
  obtain ⟨d, e, q⟩ := q.lift
  unfold dLst at e
  split at e
  · cases e
    rename_i hl
    refine ⟨by rw [rs.length]; exact hl, fun b hb => ?_⟩
    exact (outN_of r g1 q).new g1.rel.ex hb (.lst rs)
  · cases e
/-- built-ins by name -/
theorem xe_callB {id : String} {x : Str} {p : Pos} {e : Expr} {es : List Expr} {t : XA} {f : List D → Option D} {r : List V → Hp → VK → Prop} (hc : CallR X (.builtin id) r) (hi : ImpL X.K f r) (hg : Gl X x) (hm : X.mg x = none) (hv : bootBuiltins x = some (.builtin id)) (ha : PA X (e :: es) (lA X.K E t)) (hn : x ≠ "__name__" := by decide) (hdb : (x == ("__debug__" : Str)) = false := by decide)
    (he : starEach (e :: es) X.env = (false, eval e X.env) :: starEach es X.env := by rfl) (hpl : (backTo pos (starEach es X.env)).any (·.1) = false := by rfl) : PE X (.Call (.Name x p) (e :: es) [] pos) (lE X.K E (xOpL f t)) := by
  refine pe_imp (pe_callB hc hg hm hv ha hn hdb he hpl) fun σ H Q h => ?_
  obtain ⟨F, ρ, r, p⟩ := h
  refine ⟨F, ρ, r, (Pend.bind r p).mono fun xs ρ1 F1 H1 g1 q vs rs => ?_⟩
  obtain ⟨d, e, q⟩ := q.lift
  exact hi F1 H1 vs xs d Q g1.rel.ex rs e (outV_of g1.rel q)
theorem xe_callT {T : String} {x : Str} {p : Pos} {e : Expr} {es : List Expr} {t : XA} {f : List D → Option D} {r : List V → Hp → VK → Prop} (hc : CallR X (.type T) r) (hi : ImpL X.K f r) (hg : Gl X x) (hm : X.mg x = none) (hv : bootBuiltins x = some (.type T)) (ha : PA X (e :: es) (lA X.K E t)) (hn : x ≠ "__name__" := by decide) (hdb : (x == ("__debug__" : Str)) = false := by decide)
    (he : starEach (e :: es) X.env = (false, eval e X.env) :: starEach es X.env := by rfl) (hpl : (backTo pos (starEach es X.env)).any (·.1) = false := by rfl) : PE X (.Call (.Name x p) (e :: es) [] pos) (lE X.K E (xOpL f t)) := by
  refine pe_imp (pe_callTy hc hg hm hv ha hn hdb he hpl) fun σ H Q h => ?_
  obtain ⟨F, ρ, r, p⟩ := h
  refine ⟨F, ρ, r, (Pend.bind r p).mono fun xs ρ1 F1 H1 g1 q vs rs => ?_⟩
  obtain ⟨d, e, q⟩ := q.lift
  exact hi F1 H1 vs xs d Q g1.rel.ex rs e (outV_of g1.rel q)
def xTest (t : XV) : XT := fun ρ => (t ρ).bind fun x ρ1 => match x with
  | .bl b => .ok b ρ1
  | _ => .bad
def xAnd (t u : XT) : XT := fun ρ => (t ρ).bind fun b ρ1 => if b = true then u ρ1 else .ok false ρ1
def xOr (t u : XT) : XT := fun ρ => (t ρ).bind fun b ρ1 => if b = true then .ok true ρ1 else u ρ1
def xNot (t : XT) : XT := fun ρ => (t ρ).bind fun b ρ1 => .ok (!b) ρ1
theorem bl_of {K : PySem.W.Frag} {σ : L2.St} {F H : Hp} {ρ : Rho} {x : D} {v : V} {Q : Bool → Rho → Hp → Hp → Prop} (r : Rel K F H ρ σ) (rv : Rp K F v x) (h : Pend K E (fun ρ1 => match x with | .bl b => (.ok b ρ1 : Res Bool) | _ => .bad) ρ σ F H Q) : ∃ c, v = .bl c ∧ Q c ρ F H := by
  unfold Pend at h
  cases x with
  | bl b => cases rv; exact ⟨b, rfl, h F H (Go.refl r)⟩
  | non => exact h.elim
  | int _ => exact h.elim
  | str _ => exact h.elim
  | ty _ => exact h.elim
  | tup _ => exact h.elim
  | lst _ => exact h.elim
  | fix _ => exact h.elim
  | dicK _ _ => exact h.elim
  | dicT _ _ => exact h.elim
  | dicN _ _ => exact h.elim
  | exn _ => exact h.elim
  | inst _ _ => exact h.elim
  | _ => exact h.elim
theorem xt_val {e : Expr} {t : XV} (h : PE X e (lE X.K E t)) (he : ∀ whole, isTrue e X.env whole = (do let v ← whole; standAt e.pos; holding [v] (truthy v)) := by intro _; rfl) : PT X e (lT X.K E (xTest t)) := by
  refine pt_imp (pt_val h he) fun σ H Q h => ?_
  obtain ⟨F, ρ, r, p⟩ := h
  refine ⟨F, ρ, r, (Pend.bind r p).mono fun x ρ1 F1 H1 g1 q v rv => ?_⟩
  obtain ⟨c, e, q⟩ := bl_of g1.rel rv q
  exact ⟨c, e, q⟩
theorem xt_cmp {op : CmpOp} {f : D → D → Option D} {r : R2} (ho : OpR X (compareOp op) r) (hi : Imp2 X.K f r) (ha : PE X a (lE X.K E ta)) (hb : PE X b (lE X.K E tb)) (hm : behindInMarks op b = false) : PT X (.Compare a [op] [b] pos) (lT X.K E (xTest (xOp2 f ta tb))) := by
  refine pt_imp (pt_cmpR ho ha hb hm) fun σ H Q h => ?_
  obtain ⟨F, ρ, r, p⟩ := h
  have p := Pend.bind r p
  refine ⟨F, ρ, r, (Pend.bind r p).mono fun x ρ1 F1 H1 g1 q v rv => ⟨F1, ρ1, g1.rel, (Pend.bind g1.rel q).mono fun y ρ2 F2 H2 g2 q w rw => ?_⟩⟩
  obtain ⟨d, e, q⟩ := q.lift
  refine hi F2 H2 v w x y d _ g2.rel.ex (rv.mono g2.ex) rw e fun u F3 H3 g3 ru => ?_
  obtain ⟨c, e, q⟩ := bl_of (g3.go g2.rel).rel ru (q F3 H3 (g3.go g2.rel))
  exact ⟨c, e, q⟩
theorem xw_and1 {tA : XT} (ha : PT X a (lT X.K E tA)) : PW X (.BoolOp .And [a] pos) (lT X.K E tA) := pw_and1 ha
theorem xw_or1 {tA : XT} (ha : PT X a (lT X.K E tA)) : PW X (.BoolOp .Or [a] pos) (lT X.K E tA) := pw_or1 ha
theorem pw_imp {e : Expr} {t t' : TT} (h : PW X e t) (k : ∀ σ H Q, t' σ H Q → t σ H Q) : PW X e t' := ⟨fun wh pins s σ H Q I q => h.run wh pins s σ H Q I (k σ H Q q)⟩
theorem xw_and {tA tB : XT} {rest : List Expr} (ha : PT X a (lT X.K E tA)) (hb : PW X (.BoolOp .And (b :: rest) pos) (lT X.K E tB)) : PW X (.BoolOp .And (a :: b :: rest) pos) (lT X.K E (xAnd tA tB)) := by
  refine pw_imp (pw_and ha hb) fun σ H Q h => ?_
  obtain ⟨F, ρ, r, p⟩ := h
  refine ⟨F, ρ, r, (Pend.bind r p).mono fun c ρ1 F1 H1 g1 q => ?_⟩
  cases c with
  | true => exact ⟨F1, ρ1, g1.rel, q⟩
  | false => exact q F1 H1 (Go.refl g1.rel)
theorem xw_or {tA tB : XT} {rest : List Expr} (ha : PT X a (lT X.K E tA)) (hb : PW X (.BoolOp .Or (b :: rest) pos) (lT X.K E tB)) : PW X (.BoolOp .Or (a :: b :: rest) pos) (lT X.K E (xOr tA tB)) := by
  refine pw_imp (pw_or ha hb) fun σ H Q h => ?_
  obtain ⟨F, ρ, r, p⟩ := h
  refine ⟨F, ρ, r, (Pend.bind r p).mono fun c ρ1 F1 H1 g1 q => ?_⟩
  cases c with
  | false => exact ⟨F1, ρ1, g1.rel, q⟩
  | true => exact q F1 H1 (Go.refl g1.rel)
theorem xt_not {tA : XT} (ha : PT X a (lT X.K E tA)) : PT X (.UnaryOp .Not a pos) (lT X.K E (xNot tA)) := by
  refine pt_imp (pt_not ha) fun σ H Q h => ?_
  obtain ⟨F, ρ, r, p⟩ := h
  exact ⟨F, ρ, r, (Pend.bind r p).mono fun c ρ1 F1 H1 g1 q => q F1 H1 (Go.refl g1.rel)⟩
/-- and, or, not as values -/
def xAndV (t u : XV) : XV := fun ρ => (xTest t ρ).bind fun b ρ1 => if b = true then u ρ1 else .ok (.bl false) ρ1
def xOrV (t u : XV) : XV := fun ρ => (xTest t ρ).bind fun b ρ1 => if b = true then .ok (.bl true) ρ1 else u ρ1
def xNotV (t : XV) : XV := fun ρ => (xTest t ρ).bind fun b ρ1 => .ok (.bl (!b)) ρ1
theorem xe_one {op : BoolOp} {t : XV} (h : PE X a (lE X.K E t)) : PE X (.BoolOp op [a] pos) (lE X.K E t) := pe_one h
theorem xe_and {rest : List Expr} (ha : PE X a (lE X.K E ta)) (hb : PE X (.BoolOp .And (b :: rest) pos) (lE X.K E tb)) : PE X (.BoolOp .And (a :: b :: rest) pos) (lE X.K E (xAndV ta tb)) := by
  refine pe_imp (pe_and ha hb) fun σ H Q h => ?_
  obtain ⟨F, ρ, r, p⟩ := h
  have p := Pend.bind r p
  refine ⟨F, ρ, r, (Pend.bind r p).mono fun x ρ1 F1 H1 g1 q v rv => ?_⟩
  obtain ⟨c, e, q⟩ := bl_of g1.rel rv q
  refine ⟨c, e, ?_⟩
  cases c with
  | true => exact ⟨F1, ρ1, g1.rel, q⟩
  | false => exact q F1 H1 (Go.refl g1.rel) _ (.bl _)
theorem xe_or {rest : List Expr} (ha : PE X a (lE X.K E ta)) (hb : PE X (.BoolOp .Or (b :: rest) pos) (lE X.K E tb)) : PE X (.BoolOp .Or (a :: b :: rest) pos) (lE X.K E (xOrV ta tb)) := by
  refine pe_imp (pe_or ha hb) fun σ H Q h => ?_
  obtain ⟨F, ρ, r, p⟩ := h
  have p := Pend.bind r p
  refine ⟨F, ρ, r, (Pend.bind r p).mono fun x ρ1 F1 H1 g1 q v rv => ?_⟩
  obtain ⟨c, e, q⟩ := bl_of g1.rel rv q
  refine ⟨c, e, ?_⟩
  cases c with
  | false => exact ⟨F1, ρ1, g1.rel, q⟩
  | true => exact q F1 H1 (Go.refl g1.rel) _ (.bl _)
theorem xe_not (ha : PE X a (lE X.K E ta)) : PE X (.UnaryOp .Not a pos) (lE X.K E (xNotV ta)) := by
  refine pe_imp (pe_not ha) fun σ H Q h => ?_
  obtain ⟨F, ρ, r, p⟩ := h
  have p := Pend.bind r p
  refine ⟨F, ρ, r, (Pend.bind r p).mono fun x ρ1 F1 H1 g1 q v rv => ?_⟩
  obtain ⟨c, e, q⟩ := bl_of g1.rel rv q
  exact ⟨c, e, q F1 H1 (Go.refl g1.rel) _ (.bl _)⟩
def xIf (t : XT) (ta tb : XV) : XV := fun ρ => (t ρ).bind fun b ρ1 => if b = true then ta ρ1 else tb ρ1
end
end G


namespace G
open PySem PySem.Spec PyProof.Rows L2

inductive Fl where
  | nx (ρ : Rho) | ret (d : D) (ρ : Rho) | brk (ρ : Rho) | cnt (ρ : Rho) | exc (c : String) (ρ : Rho) | bad
abbrev XS := Rho → Fl
def Res.fl {α : Type} (r : Res α) (f : α → Rho → Fl) : Fl := match r with
  | .ok a ρ => f a ρ
  | .exc c ρ => .exc c ρ
  | .bad => .bad
def Fl.seq (r : Fl) (f : XS) : Fl := match r with
  | .nx ρ => f ρ
  | .ret d ρ => .ret d ρ
  | .brk ρ => .brk ρ
  | .cnt ρ => .cnt ρ
  | .exc c ρ => .exc c ρ
  | .bad => .bad

section
variable (K : PySem.W.Frag) (E : EW) (fr : Bool)
def RetP (d : D) (ρ : Rho) (σ : L2.St) (F H : Hp) (ρ' : Rho) (rt : VK) : Prop :=
  (fr = false → ∀ v σ' F' H', Go K ρ σ F H ρ' σ' F' H' → Rp K F' v d → rt v H') ∧
  (fr = true → ∀ p o σ' F' H', Go K ρ σ F H ρ' σ' F' H' → F' p = none → H' p = some o → Ro K F' p o d → ¬ Own ρ' σ' p → (Own ρ σ p ∨ H p = none) → rt (.ref p) H')
def PendS (t : XS) (ρ : Rho) (σ : L2.St) (F H : Hp) (C : Ends) : Prop := match t ρ with
  | .nx ρ' => ∀ σ' F' H', Go K ρ σ F H ρ' σ' F' H' → C.nx σ' H'
  | .ret d ρ' => RetP K fr d ρ σ F H ρ' C.rt
  | .brk ρ' => ∀ σ' F' H', Go K ρ σ F H ρ' σ' F' H' → C.bk σ' H'
  | .cnt ρ' => ∀ σ' F' H', Go K ρ σ F H ρ' σ' F' H' → C.ct σ' H'
  | .exc c ρ' => ∀ σ' F' H', Go K ρ σ F H ρ' σ' F' H' → E c σ' H'
  | .bad => False
def lS (t : XS) : TS := fun C σ H => ∃ F ρ, Rel K F H ρ σ ∧ PendS K E fr t ρ σ F H C
end
section
variable {K : PySem.W.Frag} {E : EW} {fr : Bool} {σ σ1 : L2.St} {F H F1 H1 : Hp} {ρ ρ1 : Rho} {C : Ends}
theorem own_back (r : Rel K F H ρ σ) (g : Go K ρ σ F H ρ1 σ1 F1 H1) {p : Addr} (h : Own ρ1 σ1 p ∨ H1 p = none) : Own ρ σ p ∨ H p = none := by
  rcases h with h | h
  · exact g.own p h
  · cases q : H p with
    | none => exact .inr rfl
    | some u =>
      by_cases hw : Own ρ σ p
      · exact .inl hw
      · have := g.sameH r q hw
        rw [h] at this; cases this
theorem RetP.go {d : D} {ρ' : Rho} {rt : VK} (r : Rel K F H ρ σ) (g : Go K ρ σ F H ρ1 σ1 F1 H1) (h : RetP K fr d ρ σ F H ρ' rt) : RetP K fr d ρ1 σ1 F1 H1 ρ' rt :=
  ⟨fun e v σ' F' H' g' rv => h.1 e v σ' F' H' (g.trans r g') rv, fun e p o σ' F' H' g' h1 h2 h3 h4 h5 => h.2 e p o σ' F' H' (g.trans r g') h1 h2 h3 h4 (own_back r g h5)⟩
/-- an expression, then the rest -/
theorem PendS.fl {α : Type} {t : Rho → Res α} {f : α → Rho → Fl} (r : Rel K F H ρ σ) (h : PendS K E fr (fun ρ => (t ρ).fl f) ρ σ F H C) :
    Pend K E t ρ σ F H fun a ρ1 F1 H1 => PendS K E fr (f a) ρ1 σ F1 H1 C := by
  unfold PendS at h
  unfold Pend
  split <;> rename_i e <;> simp only [e, Res.fl] at h
  · intro F1 H1 g
    unfold PendS
    split <;> rename_i e2 <;> rw [e2] at h
    · exact fun σ2 F2 H2 g2 => h σ2 F2 H2 (g.trans r g2)
    · exact RetP.go r g h
    · exact fun σ2 F2 H2 g2 => h σ2 F2 H2 (g.trans r g2)
    · exact fun σ2 F2 H2 g2 => h σ2 F2 H2 (g.trans r g2)
    · exact fun σ2 F2 H2 g2 => h σ2 F2 H2 (g.trans r g2)
    · exact h
  · exact fun F' H' g => h σ F' H' g
theorem PendS.seq {t u : XS} (r : Rel K F H ρ σ) (h : PendS K E fr (fun ρ => (t ρ).seq u) ρ σ F H C) : PendS K E fr t ρ σ F H { C with nx := lS K E fr u C } := by
  unfold PendS at h ⊢
  split <;> rename_i e <;> simp only [e, Fl.seq] at h
  · intro σ1 F1 H1 g
    refine ⟨F1, _, g.rel, ?_⟩
    unfold PendS
    split <;> rename_i e2 <;> rw [e2] at h
    · exact fun σ2 F2 H2 g2 => h σ2 F2 H2 (g.trans r g2)
    · exact RetP.go r g h
    · exact fun σ2 F2 H2 g2 => h σ2 F2 H2 (g.trans r g2)
    · exact fun σ2 F2 H2 g2 => h σ2 F2 H2 (g.trans r g2)
    · exact fun σ2 F2 H2 g2 => h σ2 F2 H2 (g.trans r g2)
    · exact h
  · exact h
  · exact h
  · exact h
  · exact h
theorem PendS.nx {ρ' : Rho} (h : PendS K E fr (fun _ => .nx ρ') ρ σ F H C) (g : Go K ρ σ F H ρ' σ1 F1 H1) : C.nx σ1 H1 := h σ1 F1 H1 g
/-- the same work behind a step -/
theorem PendS.go {t : XS} (r : Rel K F H ρ σ) (g : Go K ρ σ F H ρ1 σ1 F1 H1) (h : PendS K E fr (fun _ => t ρ1) ρ σ F H C) : PendS K E fr t ρ1 σ1 F1 H1 C := by
  unfold PendS at h ⊢
  split <;> rename_i e2 <;> rw [e2] at h
  · exact fun σ2 F2 H2 g2 => h σ2 F2 H2 (g.trans r g2)
  · exact RetP.go r g h
  · exact fun σ2 F2 H2 g2 => h σ2 F2 H2 (g.trans r g2)
  · exact fun σ2 F2 H2 g2 => h σ2 F2 H2 (g.trans r g2)
  · exact fun σ2 F2 H2 g2 => h σ2 F2 H2 (g.trans r g2)
  · exact h

theorem get_set {α : Type} {l : List α} {i j : Nat} {x y : α} (h : (l.set i x)[j]? = some y) : (i = j ∧ y = x) ∨ (i ≠ j ∧ l[j]? = some y) := by
  by_cases e : i = j
  · subst e
    refine .inl ⟨rfl, ?_⟩
    by_cases hl : i < l.length
    · rw [List.getElem?_set_self hl] at h
      exact (Option.some.inj h).symm
    · rw [List.getElem?_eq_none (by rw [List.length_set]; omega)] at h
      cases h
  · rw [List.getElem?_set_ne e] at h
    exact .inr ⟨e, h⟩
theorem own_set_val {i : Nat} {s : Slot} {o : Option V} (hs : ∀ d, s ≠ .own d) {p : Addr} (h : Own (ρ.set i s) (σ.set i o) p) : Own ρ σ p := by
  obtain ⟨j, d, h1, h2⟩ := h
  rcases get_set h1 with ⟨_, e⟩ | ⟨hj, h1⟩
  · exact absurd e.symm (hs d)
  · rcases get_set h2 with ⟨e, _⟩ | ⟨_, h2⟩
    · exact absurd e hj
    · exact ⟨j, d, h1, h2⟩
theorem Go.setVal {i : Nat} {v : V} {d : D} (h0 : i ≠ 0) (r : Rel K F H ρ σ) (rv : Rp K F v d) : Go K ρ σ F H (ρ.set i (.val d)) (σ.set i (some v)) F H where
  rel := by
    refine ⟨r.ex, by rw [List.length_set, List.length_set]; exact r.len, fun j s o h1 h2 => ?_, fun j k d1 d2 p h1 h2 h3 h4 => ?_, fun j d1 p h1 h2 h3 => ?_⟩
    rotate_right
    · rcases get_set h1 with ⟨_, q⟩ | ⟨hj, h1⟩
      · cases q
      · rcases get_set h2 with ⟨e, _⟩ | ⟨_, h2⟩
        · exact absurd e hj
        · exact r.rdis j d1 p h1 h2 (own_set_val (fun _ z => by cases z) h3)
    · rcases get_set h1 with ⟨e, rfl⟩ | ⟨hj, h1⟩
      · rcases get_set h2 with ⟨_, rfl⟩ | ⟨hj, _⟩
        · exact .val rv
        · exact absurd e hj
      · rcases get_set h2 with ⟨e, _⟩ | ⟨_, h2⟩
        · exact absurd e hj
        · exact r.at' j s o h1 h2
    · rcases get_set h1 with ⟨_, q⟩ | ⟨hj, h1⟩
      · cases q
      · rcases get_set h2 with ⟨_, q⟩ | ⟨hk, h2⟩
        · cases q
        · rcases get_set h3 with ⟨q, _⟩ | ⟨_, h3⟩
          · exact absurd q hj
          · rcases get_set h4 with ⟨q, _⟩ | ⟨_, h4⟩
            · exact absurd q hk
            · exact r.dis j k d1 d2 p h1 h2 h3 h4
  ex := Same.refl F
  keep := fun _ _ h1 h2 _ => ⟨h1, fun _ => h2⟩
  own := fun p h => .inl (own_set_val (fun _ z => by cases z) h)
  low := List.getElem?_set_ne h0
  lowO := fun d h => ⟨d, by rw [List.getElem?_set_ne h0]; exact h⟩
  rdb := fun j e h => by
    rcases get_set h with ⟨_, q⟩ | ⟨hj, h⟩
    · cases q
    · exact ⟨h, List.getElem?_set_ne hj⟩
theorem Rel.setOwn {i : Nat} {p : Addr} {o : HO} {d : D} (r : Rel K F H ρ σ) (h1 : F p = none) (h2 : H p = some o) (h3 : Ro K F p o d) (hn : ¬ Own ρ σ p) (hrd : ∀ (j : Nat) (e : D), ρ[j]? = some (.rd e) → σ[j]? = some (some (.ref p)) → False) : Rel K F H (ρ.set i (.own d)) (σ.set i (some (.ref p))) := by
  refine ⟨r.ex, by rw [List.length_set, List.length_set]; exact r.len, fun j s o g1 g2 => ?_, fun j k d1 d2 q g1 g2 g3 g4 => ?_, fun j d1 q g1 g2 g3 => ?_⟩
  rotate_right
  · rcases get_set g1 with ⟨_, z⟩ | ⟨hj, g1⟩
    · cases z
    · rcases get_set g2 with ⟨e, _⟩ | ⟨_, g2⟩
      · exact absurd e hj
      · obtain ⟨k, e, k1, k2⟩ := g3
        rcases get_set k2 with ⟨ek, ek2⟩ | ⟨hk, k2⟩
        · cases ek2
          exact hrd j d1 g1 g2
        · rcases get_set k1 with ⟨ek, _⟩ | ⟨_, k1⟩
          · exact absurd ek hk
          · exact r.rdis j d1 q g1 g2 ⟨k, e, k1, k2⟩
  · rcases get_set g1 with ⟨e, rfl⟩ | ⟨hj, g1⟩
    · rcases get_set g2 with ⟨_, rfl⟩ | ⟨hj, _⟩
      · exact .own h1 h2 h3
      · exact absurd e hj
    · rcases get_set g2 with ⟨e, _⟩ | ⟨_, g2⟩
      · exact absurd e hj
      · exact r.at' j s _ g1 g2
  · rcases get_set g1 with ⟨ej, _⟩ | ⟨hj, g1⟩
    · rcases get_set g2 with ⟨ek, _⟩ | ⟨hk, g2⟩
      · exact ej.symm.trans ek
      · rcases get_set g3 with ⟨_, e3⟩ | ⟨z, _⟩
        · cases e3
          rcases get_set g4 with ⟨q, _⟩ | ⟨_, g4⟩
          · exact absurd q hk
          · exact absurd ⟨k, d2, g2, g4⟩ hn
        · exact absurd ej z
    · rcases get_set g2 with ⟨ek, _⟩ | ⟨hk, g2⟩
      · rcases get_set g4 with ⟨_, e4⟩ | ⟨z, _⟩
        · cases e4
          rcases get_set g3 with ⟨q, _⟩ | ⟨_, g3⟩
          · exact absurd q hj
          · exact absurd ⟨j, d1, g1, g3⟩ hn
        · exact absurd ek z
      · rcases get_set g3 with ⟨q, _⟩ | ⟨_, g3⟩
        · exact absurd q hj
        · rcases get_set g4 with ⟨q, _⟩ | ⟨_, g4⟩
          · exact absurd q hk
          · exact r.dis j k d1 d2 q g1 g2 g3 g4
/-- behind an expression that gave a new object, it is stored -/
theorem Go.setOwn {i : Nat} {p : Addr} {o : HO} {d : D} (h0 : i ≠ 0) (r : Rel K F H ρ σ) (g : Go K ρ σ F H ρ1 σ F1 H1) (h1 : F1 p = none) (h2 : H1 p = some o) (h3 : Ro K F1 p o d) (hn : ¬ Own ρ1 σ p) (hw : Own ρ σ p ∨ H p = none) :
    Go K ρ σ F H (ρ1.set i (.own d)) (σ.set i (some (.ref p))) F1 H1 where
  rel := g.rel.setOwn h1 h2 h3 hn fun j e k1 k2 => by
    obtain ⟨k3, k4⟩ := g.rdb j e k1
    rw [k4] at k2
    rcases hw with hw | hw
    · exact r.rdis j e p k3 k2 hw
    · have z := g.rel.at' j _ _ k1 (k4.trans k2)
      have z0 := r.at' j _ _ k3 k2
      cases z0 with
      | rd ra =>
        cases ra with
        | own _ y _ => rw [hw] at y; cases y
        | val rp nf => exact rp_at rp nf (r.ex.free hw)
  ex := g.ex
  keep := g.keep
  own := fun q h => by
    obtain ⟨j, e, q1, q2⟩ := h
    rcases get_set q2 with ⟨ej, z⟩ | ⟨hj, q2⟩
    · cases z
      exact hw
    · rcases get_set q1 with ⟨ej, _⟩ | ⟨_, q1⟩
      · exact absurd ej hj
      · exact g.own q ⟨j, e, q1, q2⟩
  low := List.getElem?_set_ne h0
  lowO := fun d h => by
    obtain ⟨d', h'⟩ := g.lowO d h
    exact ⟨d', by rw [List.getElem?_set_ne h0]; exact h'⟩
  rdb := fun j e h => by
    rcases get_set h with ⟨_, q⟩ | ⟨hj, h⟩
    · cases q
    · obtain ⟨k1, k2⟩ := g.rdb j e h
      exact ⟨k1, (List.getElem?_set_ne hj).trans k2⟩
/-- an owned object is changed -/
theorem Go.mut {i : Nat} {p : Addr} {o o' : HO} {d d' : D} (r : Rel K F H ρ σ) (hi : ρ[i]? = some (.own d)) (hs : σ[i]? = some (some (.ref p))) (h1 : F p = none) (h2 : H p = some o) (h3 : Ro K F p o' d') :
    Go K ρ σ F H (ρ.set i (.own d')) σ F (upd H p o') where
  rel := by
    refine ⟨fun b u q => by rw [upd_ne (ne_of_none q h1)]; exact r.ex b u q, by rw [List.length_set]; exact r.len, fun j s v g1 g2 => ?_, fun j k d1 d2 q g1 g2 g3 g4 => ?_, fun j d1 q g1 g2 g3 => ?_⟩
    rotate_right
    · rcases get_set g1 with ⟨_, z⟩ | ⟨hj, g1⟩
      · cases z
      · refine r.rdis j d1 q g1 g2 ?_
        obtain ⟨k, e, k1, k2⟩ := g3
        rcases get_set k1 with ⟨ek, _⟩ | ⟨_, k1⟩
        · subst ek; exact ⟨_, d, hi, k2⟩
        · exact ⟨k, e, k1, k2⟩
    · rcases get_set g1 with ⟨e, rfl⟩ | ⟨hj, g1⟩
      · subst e
        rw [hs] at g2
        cases g2
        exact .own h1 upd_same h3
      · have z := r.at' j s v g1 g2
        cases z with
        | emp => exact .emp
        | adr => exact .adr
        | val rp => exact .val rp
        | own z1 z2 z3 =>
          refine .own z1 ?_ z3
          rw [upd_ne]
          · exact z2
          · rintro rfl
            exact hj (r.dis i j _ _ _ hi g1 hs g2)
        | rd ra =>
          refine .rd (ra.step (Same.refl F) fun q u _ eq e1 e2 => ⟨?_, e2⟩)
          subst eq
          rw [upd_ne]
          · exact e1
          · rintro rfl
            exact r.rdis j _ _ g1 g2 ⟨i, d, hi, hs⟩
    · have own_of : ∀ (m : Nat) (e : D), (ρ.set i (Slot.own d'))[m]? = some (Slot.own e) → ∃ e' : D, ρ[m]? = some (Slot.own e') := fun m e h => by
        rcases get_set h with ⟨e1, _⟩ | ⟨_, h⟩
        · subst e1; exact ⟨_, hi⟩
        · exact ⟨_, h⟩
      obtain ⟨e1, q1⟩ := own_of _ _ g1
      obtain ⟨e2, q2⟩ := own_of _ _ g2
      exact r.dis j k e1 e2 q q1 q2 g3 g4
  ex := Same.refl F
  keep := fun a u g1 g2 g3 => by
    refine ⟨?_, fun _ => g2⟩
    rw [upd_ne]
    · exact g1
    · rintro rfl
      exact g3 ⟨i, d, hi, hs⟩
  own := fun q h => by
    obtain ⟨j, e, q1, q2⟩ := h
    rcases get_set q1 with ⟨e1, _⟩ | ⟨_, q1⟩
    · subst e1
      exact .inl ⟨_, d, hi, q2⟩
    · exact .inl ⟨j, e, q1, q2⟩
  low := rfl
  lowO := fun d h => by
    by_cases h0 : i = 0
    · subst h0
      exact ⟨d', by rw [List.getElem?_set_self (by cases Nat.lt_or_ge 0 ρ.length with | inl z => exact z | inr z => rw [List.getElem?_eq_none z] at h; cases h)]⟩
    · exact ⟨d, by rw [List.getElem?_set_ne h0]; exact h⟩
  rdb := fun j e h => by
    rcases get_set h with ⟨_, q⟩ | ⟨_, h⟩
    · cases q
    · exact ⟨h, rfl⟩
end

section
variable {X : Cx} {E : EW} {fr : Bool} {pos : Pos}
def xNext : XS := fun ρ => .nx ρ
def xSeq (t u : XS) : XS := fun ρ => (t ρ).seq u
theorem xs_nil : PSs X [] (lS X.K E fr xNext) := pss_imp pss_nil fun C σ H h => by
  obtain ⟨F, ρ, r, p⟩ := h
  exact p σ F H (Go.refl r)
theorem xs_cons {s : Stmt} {rest : List Stmt} {t u : XS} (h1 : PS X s (lS X.K E fr t)) (h2 : PSs X rest (lS X.K E fr u)) : PSs X (s :: rest) (lS X.K E fr (xSeq t u)) := pss_imp (pss_cons h1 h2) fun C σ H h => by
  obtain ⟨F, ρ, r, p⟩ := h
  exact ⟨F, ρ, r, p.seq r⟩
theorem xs_one {s : Stmt} {t : XS} (h1 : PS X s (lS X.K E fr t)) : PSs X [s] (lS X.K E fr t) := pss_one h1
def xBrk : XS := fun ρ => .brk ρ
def xCnt : XS := fun ρ => .cnt ρ
def xDrop (te : XV) : XS := fun ρ => (te ρ).fl fun _ ρ1 => .nx ρ1
def xRet (te : XV) : XS := fun ρ => (te ρ).fl fun d ρ1 => .ret d ρ1
theorem xs_ret {e : Expr} {te : XV} (he : PE X e (lE X.K E te)) : PS X (.Return (some e) pos) (lS X.K E false (xRet te)) := ps_imp (ps_ret he) fun C σ H h => by
  obtain ⟨F, ρ, r, p⟩ := h
  exact ⟨F, ρ, r, (p.fl r).mono fun d ρ1 F1 H1 g q v rv => q.1 rfl v σ F1 H1 (Go.refl g.rel) rv⟩
theorem xs_retN {e : Expr} {te : XV} (he : PE X e (lN X.K E te)) : PS X (.Return (some e) pos) (lS X.K E true (xRet te)) := ps_imp (ps_ret he) fun C σ H h => by
  obtain ⟨F, ρ, r, p⟩ := h
  refine ⟨F, ρ, r, ?_⟩
  have r0 := r
  unfold PendS xRet at p
  unfold Pend
  split <;> rename_i e <;> simp only [e, Res.fl] at p
  · intro F1 H1 g b o h1 h2 h3 h4 h5
    exact p.2 rfl b o σ F1 H1 g h1 h2 h3 h4 h5
  · exact fun F1 H1 g => p σ F1 H1 g
def xIfS (t : XT) (a b : XS) : XS := fun ρ => (t ρ).fl fun c ρ1 => if c = true then a ρ1 else b ρ1
theorem xs_if {c : Expr} {a b : List Stmt} {tc : XT} {t u : XS} (hc : PT X c (lT X.K E tc)) (ha : PSs X a (lS X.K E fr t)) (hb : PSs X b (lS X.K E fr u)) : PS X (.If c a b pos) (lS X.K E fr (xIfS tc t u)) := ps_imp (ps_if hc ha hb) fun C σ H h => by
  obtain ⟨F, ρ, r, p⟩ := h
  refine ⟨F, ρ, r, (p.fl r).mono fun c ρ1 F1 H1 g q => ?_⟩
  cases c with
  | true => exact ⟨F1, ρ1, g.rel, q⟩
  | false => exact ⟨F1, ρ1, g.rel, q⟩

abbrev XG := D → Rho → Option Rho
abbrev TT2 := L2.St → L2.St → Prop
def tAny : TT2 := fun _ _ => True
def tOnly (vs : List Nat) : TT2 := fun σ σ' => wipe σ' vs = wipe σ vs
class TOk (T : TT2) : Prop where
  rf : ∀ σ, T σ σ
  tr : ∀ a b c, T a b → T b c → T a c
instance : TOk tAny := ⟨fun _ => trivial, fun _ _ _ _ _ => trivial⟩
instance (vs : List Nat) : TOk (tOnly vs) := ⟨fun _ => rfl, fun _ _ _ h1 h2 => h2.trans h1⟩
def lG (K : PySem.W.Frag) (T : TT2) (g : XG) : TG := fun v σ H Q => ∃ F ρ d ρ', Rel K F H ρ σ ∧ Rp K F v d ∧ g d ρ = some ρ' ∧ ∀ σ', T σ σ' → Go K ρ σ F H ρ' σ' F H → Q σ' H
def lGs (K : PySem.W.Frag) (T : TT2) (g : List D → Rho → Option Rho) : TGs := fun vs σ H Q => ∃ F ρ ds ρ', Rel K F H ρ σ ∧ RpAll K F vs ds ∧ g ds ρ = some ρ' ∧ ∀ σ', T σ σ' → Go K ρ σ F H ρ' σ' F H → Q σ' H
theorem pg_imp {e : Expr} {t t' : TG} (h : PG X e t) (k : ∀ v σ H Q, t' v σ H Q → t v σ H Q) : PG X e t' := ⟨fun pins s σ H v u Q I rv q => h.run pins s σ H v u Q I rv (k v σ H Q q)⟩
theorem pgs_imp {e : List Expr} {t t' : TGs} (h : PGs X e t) (k : ∀ v σ H Q, t' v σ H Q → t v σ H Q) : PGs X e t' := ⟨fun pins s σ H v u Q I rv q => h.run pins s σ H v u Q I rv (k v σ H Q q)⟩
def gSet (i : Nat) : XG := fun d ρ => some (ρ.set i (.val d))
theorem wipe_in {σ : L2.St} {j : Nat} : ∀ {vs : List Nat}, j ∈ vs → (wipe σ vs)[j]? = if j < σ.length then some none else none
  | [], h => by cases h
  | v :: vs, h => by
    unfold wipe
    by_cases e : v = j
    · subst e
      by_cases hl : v < σ.length
      · rw [if_pos hl, List.getElem?_set_self (by rw [wipe_length]; exact hl)]
      · rw [if_neg hl, List.getElem?_eq_none (by rw [List.length_set, wipe_length]; omega)]
    · rw [List.getElem?_set_ne e]
      exact wipe_in (by rcases List.mem_cons.mp h with z | z; exact absurd z.symm e; exact z)
theorem wipe_not {σ : L2.St} {j : Nat} : ∀ {vs : List Nat}, j ∉ vs → (wipe σ vs)[j]? = σ[j]?
  | [], _ => rfl
  | v :: vs, h => by
    unfold wipe
    rw [List.getElem?_set_ne (fun e => h (by rw [e]; exact List.mem_cons_self ..))]
    exact wipe_not (fun z => h (List.mem_cons_of_mem _ z))
theorem wipe_set {σ : L2.St} {i : Nat} {x : Option V} {vs : List Nat} (h : i ∈ vs) : wipe (σ.set i x) vs = wipe σ vs := by
  apply List.ext_getElem?
  intro j
  by_cases hj : j ∈ vs
  · rw [wipe_in hj, wipe_in hj, List.length_set]
  · rw [wipe_not hj, wipe_not hj, List.getElem?_set_ne (show i ≠ j from fun e => hj (by rw [← e]; exact h))]
class TIn (T : TT2) (i : Nat) : Prop where
  ok : ∀ (σ : L2.St) (x : Option V), T σ (σ.set i x)
instance (i : Nat) : TIn tAny i := ⟨fun _ _ => trivial⟩
theorem TIn.of {vs : List Nat} {i : Nat} (h : i ∈ vs) : TIn (tOnly vs) i := ⟨fun _ _ => wipe_set h⟩
theorem xg_nameT {T : TT2} {i : Nat} {x : Str} (h0 : i ≠ 0) (hT : TIn T i) (hN : X.N.Nodup) (hi : X.N[i]? = some x) (hx : Loc X.env.scope x) (hf : X.fn x = true ∨ X.env.scope.names.lookup x = some .local := by first | exact .inl rfl | exact .inr rfl | assumption) : PG X (.Name x pos) (lG X.K T (gSet i)) :=
  pg_imp (pg_name hN hi hx hf) fun v σ H Q h => by
    obtain ⟨F, ρ, d, ρ', r, rv, e, q⟩ := h
    cases e
    exact q _ (hT.ok _ _) (Go.setVal h0 r rv)
theorem xg_name {i : Nat} {x : Str} (hN : X.N.Nodup) (hi : X.N[i]? = some x) (hx : Loc X.env.scope x) (h0 : i ≠ 0 := by decide) (hf : X.fn x = true ∨ X.env.scope.names.lookup x = some .local := by first | exact .inl rfl | exact .inr rfl | assumption) : PG X (.Name x pos) (lG X.K tAny (gSet i)) :=
  xg_nameT h0 inferInstance hN hi hx hf
theorem xg_nameW {vs : List Nat} {i : Nat} {x : Str} (hN : X.N.Nodup) (hi : X.N[i]? = some x) (hx : Loc X.env.scope x) (hm : i ∈ vs := by decide) (h0 : i ≠ 0 := by decide) (hf : X.fn x = true ∨ X.env.scope.names.lookup x = some .local := by first | exact .inl rfl | exact .inr rfl | assumption) : PG X (.Name x pos) (lG X.K (tOnly vs) (gSet i)) :=
  xg_nameT h0 (TIn.of hm) hN hi hx hf
def gsNil : List D → Rho → Option Rho := fun ds ρ => match ds with
  | [] => some ρ
  | _ => none
def gsCons (g : XG) (gs : List D → Rho → Option Rho) : List D → Rho → Option Rho := fun ds ρ => match ds with
  | d :: r => (g d ρ).bind (gs r)
  | [] => none
theorem xgs_nil {T : TT2} [TOk T] : PGs X [] (lGs X.K T gsNil) := pgs_imp pgs_nil fun v σ H Q h => by
  obtain ⟨F, ρ, ds, ρ', r, rv, e, q⟩ := h
  cases rv with
  | nil => cases e; exact ⟨rfl, q σ (TOk.rf σ) (Go.refl r)⟩
  | cons _ _ => cases e
theorem xgs_cons {T : TT2} [TOk T] {e : Expr} {es : List Expr} {t : XG} {u : List D → Rho → Option Rho} (h1 : PG X e (lG X.K T t)) (h2 : PGs X es (lGs X.K T u))
    (hs : (assignEach (e :: es) X.env).map (·.2) = assign e X.env :: (assignEach es X.env).map (·.2) := by rfl) : PGs X (e :: es) (lGs X.K T (gsCons t u)) := pgs_imp (pgs_cons h1 h2 hs) fun v σ H Q h => by
  obtain ⟨F, ρ, ds, ρ', r, rv, e, q⟩ := h
  cases rv with
  | nil => cases e
  | cons a b =>
    rename_i v vs d ds
    unfold gsCons at e
    simp only at e
    cases q1 : t d ρ with
    | none => rw [q1] at e; cases e
    | some ρ1 =>
      rw [q1] at e
      refine ⟨v, vs, rfl, F, ρ, d, ρ1, r, a, q1, fun σ1 t1 g1 => ⟨F, ρ1, ds, ρ', g1.rel, b, e, fun σ2 t2 g2 => q σ2 (TOk.tr _ _ _ t1 t2) (g1.trans r g2)⟩⟩
def gsTup (n : Nat) (gs : List D → Rho → Option Rho) : XG := fun d ρ => match d with
  | .tup ds => if ds.length = n then gs ds ρ else none
  | _ => none
theorem xg_tup {T : TT2} {es : List Expr} {k : Nat} {t : List D → Rho → Option Rho} {n : Nat} (hc : X.calm = true) (h : PGs X es (lGs X.K T t))
    (hn : (assignEach es X.env).length = n := by rfl) (hst : (assignEach es X.env).findIdx? (·.1) = none := by rfl) : PG X (.Tuple es k pos) (lG X.K T (gsTup n t)) := pg_imp (pg_tup hc h hn hst) fun v σ H Q h => by
  obtain ⟨F, ρ, d, ρ', r, rv, e, q⟩ := h
  cases rv with
  | tup hf ra =>
    rename_i a xs ds
    unfold gsTup at e
    simp only at e
    split at e
    · rename_i hl
      exact ⟨a, xs, rfl, SqT.of (r.ex _ _ hf), ra.length.trans hl, F, ρ, ds, ρ', r, ra, e, q⟩
    · cases e
  | non => cases e
  | bl _ => cases e
  | int _ => cases e
  | str _ => cases e
  | ty _ => cases e
  | lst _ _ => cases e
  | fix _ _ => cases e
  | dicK _ _ _ => cases e
  | dicT _ _ _ => cases e
  | dicN _ _ _ _ => cases e
  | exn _ _ => cases e
  | inst _ _ _ _ => cases e
  | _ => cases e
def xAsg (te : XV) (g : XG) : XS := fun ρ => (te ρ).fl fun d ρ1 => match g d ρ1 with
  | some ρ2 => .nx ρ2
  | none => .bad
theorem asg_of {te : XV} {g : XG} {C : Ends} {σ : L2.St} {H : Hp} (h : lS X.K E fr (xAsg te g) C σ H) : tAsg (lE X.K E te) (lG X.K tAny g) C σ H := by
  obtain ⟨F, ρ, r, p⟩ := h
  refine ⟨F, ρ, r, (p.fl r).mono fun d ρ1 F1 H1 g1 q v rv => ?_⟩
  unfold PendS at q
  cases e : g d ρ1 with
  | none => simp only [e] at q
  | some ρ2 =>
    simp only [e] at q
    exact ⟨F1, ρ1, d, ρ2, g1.rel, rv, e, fun σ2 _ g2 => q σ2 F1 H1 g2⟩
theorem xs_asg {tg e : Expr} {te : XV} {g : XG} (he : PE X e (lE X.K E te)) (hg : PG X tg (lG X.K tAny g)) (hs : swapsWithSole [tg] e pos.line X.env = pure false := by rfl) (hw : swappedStores [tg] e X.env = pure none := by rfl)
    (h1 : (assignEach [tg] X.env).map (·.2) = [assign tg X.env] := by rfl) : PS X (.Assign [tg] e pos) (lS X.K E fr (xAsg te g)) := ps_imp (ps_asg he hg hs hw h1) fun C σ H h => asg_of h
abbrev xSet (i : Nat) (te : XV) : XS := xAsg te (gSet i)
theorem xs_set {i : Nat} {x : Str} {e : Expr} {te : XV} {pos' : Pos} (hN : X.N.Nodup) (hi : X.N[i]? = some x) (hx : Loc X.env.scope x) (he : PE X e (lE X.K E te)) (h0 : i ≠ 0 := by decide) (hs : swapsWith e (some (.Name x pos')) pos.line X.env = pure false := by rfl) (hf : X.fn x = true ∨ X.env.scope.names.lookup x = some .local := by first | exact .inl rfl | exact .inr rfl | assumption) :
    PS X (.Assign [.Name x pos'] e pos) (lS X.K E fr (xSet i te)) := ps_imp (ps_set hN hi hx he hs hf) fun C σ H h => by
  obtain ⟨F, ρ, r, p⟩ := h
  exact ⟨F, ρ, r, (p.fl r).mono fun d ρ1 F1 H1 g1 q v rv => q _ F1 H1 (Go.setVal h0 g1.rel rv)⟩
/-- a new object, owned -/
def xSetO (i : Nat) (te : XV) : XS := fun ρ => (te ρ).fl fun d ρ1 => .nx (ρ1.set i (.own d))
theorem seto_of {i : Nat} {te : XV} (h0 : i ≠ 0) {C : Ends} {σ : L2.St} {H : Hp} (h : lS X.K E fr (xSetO i te) C σ H) : tAsg (lN X.K E te) (gName i) C σ H := by
  obtain ⟨F, ρ, r, p⟩ := h
  refine ⟨F, ρ, r, ?_⟩
  unfold PendS xSetO at p
  unfold Pend
  split <;> rename_i e <;> simp only [e, Res.fl] at p
  · intro F1 H1 g b o h1 h2 h3 h4 h5
    exact p _ F1 H1 (Go.setOwn h0 r g h1 h2 h3 h4 h5)
  · exact fun F1 H1 g => p σ F1 H1 g
theorem xs_setO {i : Nat} {x : Str} {e : Expr} {te : XV} {pos' : Pos} (hN : X.N.Nodup) (hi : X.N[i]? = some x) (hx : Loc X.env.scope x) (he : PE X e (lN X.K E te)) (h0 : i ≠ 0 := by decide) (hs : swapsWith e (some (.Name x pos')) pos.line X.env = pure false := by rfl) (hf : X.fn x = true ∨ X.env.scope.names.lookup x = some .local := by first | exact .inl rfl | exact .inr rfl | assumption) :
    PS X (.Assign [.Name x pos'] e pos) (lS X.K E fr (xSetO i te)) := ps_imp (ps_set hN hi hx he hs hf) fun C σ H h => seto_of h0 h

def Iters (K : PySem.W.Frag) (ρ : Rho) (σ : L2.St) (F H : Hp) (ds : List D) (J : It) : Prop := ∀ ρ2 σ2 F2 H2, Go K ρ σ F H ρ2 σ2 F2 H2 →
  (∀ i d, ds[i]? = some d → J.go i H2 ∧ ∀ x H3, J.yld i H2 x H3 → ∃ F3, Gr F2 H2 F3 H3 ∧ Rp K F3 x d) ∧ ∀ i, ds.length ≤ i → J.stop i H2
def lI (K : PySem.W.Frag) (E : EW) (t : XA) : TI := fun σ H R => ∃ F ρ, Rel K F H ρ σ ∧ Pend K E t ρ σ F H fun ds ρ' F' H' => ∀ J, Iters K ρ' σ F' H' ds J → R J H'
theorem pi_imp {tg it : Expr} {t t' : TI} (h : PI X tg it t) (k : ∀ σ H Q, t' σ H Q → t σ H Q) : PI X tg it t' := ⟨fun pins s σ H Q I q => h.run pins s σ H Q I (k σ H Q q)⟩
def forRun (g : XG) (body : XS) : List D → XS
  | [], ρ => .nx ρ
  | d :: r, ρ => match g d ρ with
    | none => .bad
    | some ρ1 => match body ρ1 with
      | .nx ρ2 => forRun g body r ρ2
      | .cnt ρ2 => forRun g body r ρ2
      | .brk ρ2 => .nx ρ2
      | f => f
def xFor (ti : XA) (g : XG) (body : XS) : XS := fun ρ => (ti ρ).fl fun ds ρ1 => forRun g body ds ρ1
theorem xs_for {tg iter : Expr} {body : List Stmt} {ti : XA} {g : XG} {tb : XS} (hp : PassesOwn (model X.prog X.w) X.A X.env X.xe) (hc : X.calm = true) (hi : PI X tg iter (lI X.K E ti)) (hg : PG X tg (lG X.K tAny g)) (hb : PSs X body (lS X.K E fr tb))
    (hs : ∀ x, foldedSetIterable iter X.env x = pure x := by intro _; rfl) : PS X (.For tg iter body [] pos) (lS X.K E fr (xFor ti g tb)) := by
  refine ps_imp (ps_for hp hc hi hg hb hs) fun C σ H h => ?_
  obtain ⟨F, ρ, r, p⟩ := h
  refine ⟨F, ρ, r, (p.fl r).mono fun ds ρ1 F1 H1 g1 q J hJ => ?_⟩
  refine ⟨fun i m σ' H' => m = ds.length - i ∧ i ≤ ds.length ∧ ∃ F' ρ', Go X.K ρ1 σ F1 H1 ρ' σ' F' H' ∧ PendS X.K E fr (forRun g tb (ds.drop i)) ρ' σ' F' H' C, ⟨ds.length, by simp, Nat.zero_le _, F1, ρ1, Go.refl g1.rel, by rw [List.drop_zero]; exact q⟩, ?_⟩
  rintro i m σ' H' ⟨rfl, hi, F', ρ', gg, q'⟩
  have r' := gg.rel
  obtain ⟨z1, z2⟩ := hJ ρ' σ' F' H' gg
  by_cases hlt : i < ds.length
  · refine .inr ⟨(z1 i _ (List.getElem?_eq_getElem hlt)).1, fun σ2 H2 => i + 1 ≤ ds.length ∧ ∃ F2 ρ2, Go X.K ρ1 σ F1 H1 ρ2 σ2 F2 H2 ∧ PendS X.K E fr (forRun g tb (ds.drop (i + 1))) ρ2 σ2 F2 H2 C, fun σ2 H2 hN => ⟨ds.length - (i + 1), by omega, rfl, hN.1, hN.2⟩, fun x H3 y => ?_⟩
    obtain ⟨F3, g3, rx⟩ := (z1 i _ (List.getElem?_eq_getElem hlt)).2 x H3 y
    have go3 := g3.go r'
    rw [List.drop_eq_getElem_cons hlt] at q'
    have q' := PendS.go (t := forRun g tb (ds[i] :: ds.drop (i + 1))) r' go3 q'
    unfold PendS forRun at q'
    cases e : g ds[i] ρ' with
    | none => simp only [e] at q'
    | some ρ4 =>
      simp only [e] at q'
      refine ⟨F3, ρ', ds[i], ρ4, go3.rel, rx, e, fun σ4 _ g4 => ⟨F3, ρ4, g4.rel, ?_⟩⟩
      have tail : ∀ {σ5 F5 H5 ρ5}, Go X.K ρ4 σ4 F3 H3 ρ5 σ5 F5 H5 → PendS X.K E fr (fun _ => forRun g tb (ds.drop (i + 1)) ρ5) ρ' σ' F3 H3 C → (i + 1 ≤ ds.length ∧ ∃ F2 ρ2, Go X.K ρ1 σ F1 H1 ρ2 σ5 F2 H5 ∧ PendS X.K E fr (forRun g tb (ds.drop (i + 1))) ρ2 σ5 F2 H5 C) :=
        fun {σ5 F5 H5 ρ5} g5 k => ⟨hlt, F5, ρ5, gg.trans g1.rel (go3.trans r' (g4.trans go3.rel g5)), PendS.go go3.rel (g4.trans go3.rel g5) k⟩
      unfold PendS
      split <;> rename_i e5 <;> simp only [e5] at q'
      · exact fun σ5 F5 H5 g5 => tail g5 q'
      · exact RetP.go go3.rel g4 q'
      · exact fun σ5 F5 H5 g5 => q' σ5 F5 H5 (g4.trans go3.rel g5)
      · exact fun σ5 F5 H5 g5 => tail g5 q'
      · exact fun σ5 F5 H5 g5 => q' σ5 F5 H5 (g4.trans go3.rel g5)
  · have e : i = ds.length := by omega
    subst e
    refine .inl ⟨z2 _ (Nat.le_refl _), ?_⟩
    rw [List.drop_length] at q'
    exact q' σ' F' H' (Go.refl r')
/-- the things that are walked: lists, tuples -/
def dItems : D → Option (List D)
  | .lst ds => some ds
  | .tup ds => some ds
  | .fix ds => some ds
  | _ => none
def dItL : D → Option (List D)
  | .lst ds => some ds
  | .fix ds => some ds
  | _ => none
def dItT : D → Option (List D)
  | .tup ds => some ds
  | _ => none
theorem iters_list {K : PySem.W.Frag} {ρ : Rho} {σ : L2.St} {F H : Hp} {a : Addr} {xs : List V} {ds : List D} (h : ∀ ρ2 σ2 F2 H2, Go K ρ σ F H ρ2 σ2 F2 H2 → SqL K H2 a xs) (r : RpAll K F xs ds) : Iters K ρ σ F H ds (Itl K a) := fun ρ2 σ2 F2 H2 g =>
  ⟨fun i d hd => by
    obtain ⟨v, hv, rv⟩ := r.get hd
    exact ⟨⟨xs, v, h ρ2 σ2 F2 H2 g, hv⟩, fun x H3 y => by
      obtain ⟨e, y⟩ := y
      subst e
      have := y xs (h ρ2 σ2 F2 _ g)
      rw [hv] at this
      cases this
      exact ⟨F2, Gr.refl g.rel.ex, rv.mono g.ex⟩⟩, fun i hi => ⟨xs, h ρ2 σ2 F2 H2 g, by rw [r.length]; exact hi⟩⟩
theorem iters_tup {K : PySem.W.Frag} {ρ : Rho} {σ : L2.St} {F H : Hp} {a : Addr} {xs : List V} {ds : List D} (h : F a = some (.tup xs)) (r : RpAll K F xs ds) : Iters K ρ σ F H ds (Itt K a) := fun ρ2 σ2 F2 H2 g =>
  have q : SqT K H2 a xs := SqT.of (g.rel.ex _ _ (g.ex _ _ h))
  ⟨fun i d hd => by
    obtain ⟨v, hv, rv⟩ := r.get hd
    exact ⟨⟨xs, v, q, hv⟩, fun x H3 y => by
      obtain ⟨e, y⟩ := y
      subst e
      have := y xs q
      rw [hv] at this
      cases this
      exact ⟨F2, Gr.refl g.rel.ex, rv.mono g.ex⟩⟩, fun i hi => ⟨xs, q, by rw [r.length]; exact hi⟩⟩
/-- range(n), range(a, b) -/
def rangeD (lo : Int) (n : Nat) : List D := (List.range n).map fun i => .int (lo + (i : Nat))
/-- -(2 ^ 62) ≤ n < 2 ^ 62, told so that the kernel does not count down -/
def inR : Int → Bool
  | .ofNat m => Nat.ble m 4611686018427387903
  | .negSucc m => Nat.ble m 4611686018427387903
theorem inR_iff (n : Int) : inR n = true ↔ -(2 ^ 62) ≤ n ∧ n < 2 ^ 62 := by
  cases n with
  | ofNat m =>
    unfold inR
    simp only [Nat.ble_eq, Int.ofNat_eq_natCast]
    omega
  | negSucc m =>
    unfold inR
    simp only [Nat.ble_eq, Int.negSucc_eq]
    omega
def dRange1 : D → Option (List D)
  | .int n => if inR n = true then some (rangeD 0 n.toNat) else none
  | _ => none
def dRange2 : D → D → Option (List D)
  | .int a, .int b => if inR a = true ∧ inR b = true then some (rangeD a (b - a).toNat) else none
  | _, _ => none
def xItR1 (t : XV) : XA := fun ρ => (t ρ).bind (lift dRange1)
def xItR2 (ta tb : XV) : XA := fun ρ => (ta ρ).bind fun x ρ1 => (tb ρ1).bind (lift (dRange2 x))
theorem iters_range {K : PySem.W.Frag} {ρ : Rho} {σ : L2.St} {F H : Hp} {lo : Int} {n : Nat} : Iters K ρ σ F H (rangeD lo n) (Itr lo n) := by
  intro ρ2 σ2 F2 H2 g
  refine ⟨fun i d hd => ?_, fun i hi => ?_⟩
  · unfold rangeD at hd
    rw [List.getElem?_map] at hd
    by_cases hi : i < n
    · rw [List.getElem?_range hi] at hd
      cases hd
      refine ⟨hi, fun x H3 y => ?_⟩
      obtain ⟨e, y⟩ := y
      subst e y
      exact ⟨F2, Gr.refl g.rel.ex, .int _⟩
    · rw [List.getElem?_eq_none (by rw [List.length_range]; omega)] at hd
      cases hd
  · unfold rangeD at hi
    rw [List.length_map, List.length_range] at hi
    exact hi
theorem dRange1_of {d : D} {ds : List D} (e : dRange1 d = some ds) : ∃ n : Int, d = .int n ∧ (-(2 ^ 62) ≤ n ∧ n < 2 ^ 62) ∧ ds = rangeD 0 n.toNat := by
  unfold dRange1 at e
  split at e
  · split at e
    · rename_i n hb
      cases e
      exact ⟨n, rfl, (inR_iff n).mp hb, rfl⟩
    · cases e
  · cases e
theorem xi_range1 {tg e : Expr} {p : Pos} {t : XV} (hg : Gl X "range") (hm : X.mg "range" = none) (ha : PE X e (lE X.K E t)) (hs : starEach [e] X.env = [(false, eval e X.env)] := by rfl) :
    PI X tg (.Call (.Name "range" p) [e] [] pos) (lI X.K E (xItR1 t)) := pi_imp (pi_range1 hg hm (pa_cons ha pa_nil hs) hs) fun σ H R h => by
  obtain ⟨F, ρ, r, p⟩ := h
  refine ⟨F, ρ, r, (Pend.bind r p).mono fun x ρ1 F1 H1 g1 q v rv => ?_⟩
  obtain ⟨d, e, q⟩ := q.lift
  obtain ⟨n, rfl, hb, rfl⟩ := dRange1_of e
  cases rv
  have := q F1 H1 (Go.refl g1.rel) _ iters_range
  exact ⟨n, rfl, hb.1, hb.2, this⟩
end
end G


namespace G
open PySem PySem.Spec PyProof.Rows L2

def wipeR (ρ : Rho) : List Nat → Rho
  | [] => ρ
  | v :: vs => (wipeR ρ vs).set v .emp
def backR (ρ₀ ρ : Rho) : List Nat → Rho
  | [] => ρ
  | v :: vs => (backR ρ₀ ρ vs).set v (ρ₀.getD v .emp)
def noOwn (ρ : Rho) (vs : List Nat) : Bool := vs.all fun v => match ρ[v]? with
  | some (.own _) => false
  | _ => true
def Res.bindX {α β : Type} (r : Res α) (f : α → Rho → Res β) : Res β := match r with
  | .ok a ρ => f a ρ
  | _ => .bad
def xYes : XT := fun ρ => .ok true ρ
def lcRun (g : XG) (tt : XT) (te : XV) (vs : List Nat) : List D → List D → Rho → Res (List D)
  | [], acc, ρ => .ok acc ρ
  | d :: r, acc, ρ => match g d (wipeR ρ vs) with
    | none => .bad
    | some ρ1 => (tt ρ1).bindX fun b ρ2 => if b = true then (te ρ2).bindX fun y ρ3 => lcRun g tt te vs r (acc ++ [y]) (backR ρ ρ3 vs) else lcRun g tt te vs r acc (backR ρ ρ2 vs)
def xLC (ti : XA) (g : XG) (tt : XT) (te : XV) (vs : List Nat) : XV := fun ρ => (ti ρ).bind fun ds ρ1 =>
  if ds.length ≤ sizeLine ∧ noOwn ρ1 vs = true then (lcRun g tt te vs ds [] ρ1).bind fun acc ρ2 => .ok (.lst acc) ρ2 else .bad

section
variable {K : PySem.W.Frag} {F H F1 H1 : Hp} {ρ ρ1 : Rho} {σ σ1 : L2.St}
theorem wipeR_length (ρ : Rho) : ∀ vs : List Nat, (wipeR ρ vs).length = ρ.length
  | [] => rfl
  | v :: vs => by unfold wipeR; rw [List.length_set, wipeR_length ρ vs]
theorem backR_length (ρ₀ ρ : Rho) : ∀ vs : List Nat, (backR ρ₀ ρ vs).length = ρ.length
  | [] => rfl
  | v :: vs => by unfold backR; rw [List.length_set, backR_length ρ₀ ρ vs]
theorem wipeR_in {j : Nat} {s : Slot} : ∀ {vs : List Nat}, j ∈ vs → (wipeR ρ vs)[j]? = some s → s = .emp
  | [], h, _ => by cases h
  | v :: vs, h, e => by
    unfold wipeR at e
    rcases get_set e with ⟨_, q⟩ | ⟨hv, e⟩
    · exact q
    · exact wipeR_in (by rcases List.mem_cons.mp h with z | z; exact absurd z.symm hv; exact z) e
theorem wipeR_not {j : Nat} : ∀ {vs : List Nat}, j ∉ vs → (wipeR ρ vs)[j]? = ρ[j]?
  | [], _ => rfl
  | v :: vs, h => by
    unfold wipeR
    rw [List.getElem?_set_ne (fun e => h (by rw [e]; exact List.mem_cons_self ..))]
    exact wipeR_not (fun z => h (List.mem_cons_of_mem _ z))
theorem backR_in {ρ₀ : Rho} {j : Nat} {s : Slot} : ∀ {vs : List Nat}, j ∈ vs → (backR ρ₀ ρ vs)[j]? = some s → s = ρ₀.getD j .emp
  | [], h, _ => by cases h
  | v :: vs, h, e => by
    unfold backR at e
    rcases get_set e with ⟨e1, q⟩ | ⟨hv, e⟩
    · rw [← e1]; exact q
    · exact backR_in (by rcases List.mem_cons.mp h with z | z; exact absurd z.symm hv; exact z) e
theorem backR_not {ρ₀ : Rho} {j : Nat} : ∀ {vs : List Nat}, j ∉ vs → (backR ρ₀ ρ vs)[j]? = ρ[j]?
  | [], _ => rfl
  | v :: vs, h => by
    unfold backR
    rw [List.getElem?_set_ne (fun e => h (by rw [e]; exact List.mem_cons_self ..))]
    exact backR_not (fun z => h (List.mem_cons_of_mem _ z))
theorem noOwn_at {vs : List Nat} (h : noOwn ρ vs = true) {j : Nat} (hj : j ∈ vs) {d : D} (e : ρ[j]? = some (.own d)) : False := by
  have := List.all_eq_true.mp h j hj
  rw [e] at this
  cases this
theorem own_wipe {vs : List Nat} {p : Addr} (h : Own (wipeR ρ vs) (wipe σ vs) p) : Own ρ σ p := by
  obtain ⟨j, d, h1, h2⟩ := h
  by_cases hj : j ∈ vs
  · cases wipeR_in hj h1
  · rw [wipeR_not hj] at h1
    rw [wipe_not hj] at h2
    exact ⟨j, d, h1, h2⟩
theorem Rel.wipe (r : Rel K F H ρ σ) (vs : List Nat) : Rel K F H (wipeR ρ vs) (wipe σ vs) := by
  refine ⟨r.ex, by rw [wipeR_length, wipe_length]; exact r.len, fun j s o h1 h2 => ?_, fun j k d1 d2 p h1 h2 h3 h4 => ?_, fun j d p h1 h2 h3 => ?_⟩
  rotate_right
  · have g1 : j ∉ vs := fun hj => by cases wipeR_in hj h1
    rw [wipeR_not g1] at h1
    rw [wipe_not g1] at h2
    exact r.rdis j d p h1 h2 (own_wipe h3)
  · by_cases hj : j ∈ vs
    · rw [wipeR_in hj h1]; exact .emp
    · rw [wipeR_not hj] at h1
      rw [wipe_not hj] at h2
      exact r.at' j s o h1 h2
  · have g1 : j ∉ vs := fun hj => by cases wipeR_in hj h1
    have g2 : k ∉ vs := fun hj => by cases wipeR_in hj h2
    rw [wipeR_not g1] at h1
    rw [wipeR_not g2] at h2
    rw [wipe_not g1] at h3
    rw [wipe_not g2] at h4
    exact r.dis j k d1 d2 p h1 h2 h3 h4
/-- out of a turn of a comprehension: what it was given is as before, but what is owned may have changed -/
theorem Go.back {vs : List Nat} (hv0 : 0 ∉ vs) (r : Rel K F H ρ σ) (hn : noOwn ρ vs = true) (g : Go K (wipeR ρ vs) (L2.wipe σ vs) F H ρ1 σ1 F1 H1) (hw : L2.wipe σ1 vs = L2.wipe σ vs) : Go K ρ σ F H (backR ρ ρ1 vs) σ F1 H1 := by
  have same : ∀ j, j ∉ vs → σ1[j]? = σ[j]? := fun j hj => by
    have e := congrArg (fun l => l[j]?) hw
    simp only [wipe_not hj] at e
    exact e
  have lens : σ1.length = σ.length := by
    have e := congrArg List.length hw
    rw [wipe_length, wipe_length] at e
    exact e
  have ob : ∀ p, Own (backR ρ ρ1 vs) σ p → Own ρ1 σ1 p ∧ True := fun p ⟨j, d, h1, h2⟩ => by
    by_cases hj : j ∈ vs
    · have e := backR_in hj h1
      rw [List.getD_eq_getElem?_getD] at e
      cases q : ρ[j]? with
      | none => rw [q] at e; cases e
      | some s => rw [q] at e; exact (noOwn_at hn hj (q.trans (congrArg some e.symm))).elim
    · rw [backR_not hj] at h1
      exact ⟨⟨j, d, h1, (same j hj).trans h2⟩, trivial⟩
  have rdj : ∀ (j : Nat) (d : D), (backR ρ ρ1 vs)[j]? = some (.rd d) → ρ[j]? = some (.rd d) := fun j d h => by
    by_cases hj : j ∈ vs
    · have e := backR_in hj h
      rw [List.getD_eq_getElem?_getD] at e
      cases q : ρ[j]? with
      | none => rw [q] at e; cases e
      | some s => rw [q] at e; exact congrArg some e.symm
    · rw [backR_not hj] at h
      obtain ⟨k1, _⟩ := g.rdb j d h
      rw [wipeR_not hj] at k1
      exact k1
  refine ⟨⟨g.rel.ex, ?_, fun j s o h1 h2 => ?_, fun j k d1 d2 p h1 h2 h3 h4 => ?_, fun j d p h1 h2 h3 => ?_⟩, g.ex, fun a o h1 h2 h3 => g.keep a o h1 h2 fun z => h3 (own_wipe z), fun p h => ?_, rfl, fun d h => ?_, fun j d h => ⟨rdj j d h, rfl⟩⟩
  rotate_left 3
  · have k1 := rdj j d h1
    rcases g.own p (ob p h3).1 with z | z
    · exact r.rdis j d p k1 h2 (own_wipe z)
    · have y := r.at' j _ _ k1 h2
      cases y with
      | rd ra =>
        cases ra with
        | own _ y _ => rw [z] at y; cases y
        | val rp nf => exact rp_at rp nf (r.ex.free z)
  rotate_right
  rotate_right
  rotate_right
  · rw [backR_length, g.rel.len, lens]
  · by_cases hj : j ∈ vs
    · have e := backR_in hj h1
      rw [List.getD_eq_getElem?_getD] at e
      cases q : ρ[j]? with
      | none => rw [q] at e; rw [e]; exact .emp
      | some u =>
        rw [q] at e
        have e' : s = u := e
        subst e'
        have z := r.at' j s o q h2
        cases z with
        | emp => exact .emp
        | adr => exact .adr
        | val rp => exact .val (rp.mono g.ex)
        | own _ _ _ => exact (noOwn_at hn hj q).elim
        | rd ra =>
          refine .rd (ra.step g.ex fun p' u hn eq e1 e2 => ?_)
          obtain ⟨m1, m2⟩ := g.keep p' u e1 e2 fun z => by
            subst eq
            exact r.rdis j _ _ q h2 (own_wipe z)
          exact ⟨m1, m2 hn⟩
    · rw [backR_not hj] at h1
      exact g.rel.at' j s o h1 ((same j hj).trans h2)
  · have notin : ∀ (m : Nat) (e : D), (backR ρ ρ1 vs)[m]? = some (.own e) → m ∉ vs := fun m e h hm => by
      have e := backR_in hm h
      rw [List.getD_eq_getElem?_getD] at e
      cases q : ρ[m]? with
      | none => rw [q] at e; cases e
      | some u =>
        rw [q] at e
        exact noOwn_at hn hm (q.trans (congrArg some e.symm))
    have n1 := notin j d1 h1
    have n2 := notin k d2 h2
    rw [backR_not n1] at h1
    rw [backR_not n2] at h2
    exact g.rel.dis j k d1 d2 p h1 h2 ((same j n1).trans h3) ((same k n2).trans h4)
  · rcases g.own p (ob p h).1 with z | z
    · exact .inl (own_wipe z)
    · exact .inr z
  · obtain ⟨d', h'⟩ := g.lowO d (by rw [wipeR_not hv0]; exact h)
    exact ⟨d', by rw [backR_not hv0]; exact h'⟩
theorem noOwn_back {vs : List Nat} {ρ₀ : Rho} (hn : noOwn ρ₀ vs = true) : noOwn (backR ρ₀ ρ vs) vs = true := by
  refine List.all_eq_true.mpr fun j hj => ?_
  cases q : (backR ρ₀ ρ vs)[j]? with
  | none => rfl
  | some s =>
    have e := backR_in hj q
    rw [List.getD_eq_getElem?_getD] at e
    cases q2 : ρ₀[j]? with
    | none => rw [q2] at e; rw [e]; rfl
    | some u =>
      rw [q2] at e
      have e' : s = u := e
      subst e'
      have := List.all_eq_true.mp hn j hj
      rw [q2] at this
      exact this
theorem rd_new {p : Addr} (r : Rel K F H ρ σ) (g : Go K ρ σ F H ρ1 σ1 F1 H1) (h0 : H p = none) (j : Nat) (d : D) (h1 : ρ1[j]? = some (.rd d)) (h2 : σ1[j]? = some (some (.ref p))) : False := by
  obtain ⟨k1, k2⟩ := g.rdb j d h1
  rw [k2] at h2
  have y := r.at' j _ _ k1 h2
  cases y with
  | rd ra =>
    cases ra with
    | own _ y _ => rw [h0] at y; cases y
    | val rp nf => exact rp_at rp nf (r.ex.free h0)
/-- an object that was not known at the start changes -/
theorem Go.touch {p : Addr} {o o' : HO} (r : Rel K F H ρ σ) (g : Go K ρ σ F H ρ1 σ1 F1 H1) (h0 : H p = none) (hf : F1 p = none) (hh : H1 p = some o) (hn : ¬ Own ρ1 σ1 p) : Go K ρ σ F H ρ1 σ1 F1 (upd H1 p o') := by
  refine ⟨⟨fun b u q => by rw [upd_ne (ne_of_none q hf)]; exact g.rel.ex b u q, g.rel.len, fun j s v h1 h2 => ?_, g.rel.dis, g.rel.rdis⟩, g.ex, fun a u h1 h2 h3 => ?_, g.own, g.low, g.lowO, g.rdb⟩
  · have z := g.rel.at' j s v h1 h2
    cases z with
    | emp => exact .emp
    | adr => exact .adr
    | val rp => exact .val rp
    | own z1 z2 z3 =>
      refine .own z1 ?_ z3
      rw [upd_ne]
      · exact z2
      · rintro rfl
        exact hn ⟨j, _, h1, h2⟩
    | rd ra =>
      refine .rd (ra.step (Same.refl F1) fun q u _ eq e1 e2 => ⟨?_, e2⟩)
      subst eq
      rw [upd_ne]
      · exact e1
      · rintro rfl
        exact rd_new r g h0 j _ h1 h2
  · obtain ⟨q1, q2⟩ := g.keep a u h1 h2 h3
    refine ⟨?_, q2⟩
    rw [upd_ne (ne_of_none h1 h0)]
    exact q1
end
section
variable {X : Cx} {E : EW} {fr : Bool} {pos : Pos}
abbrev E0 : EW := fun _ _ _ => False
theorem Pend.bindX {K : PySem.W.Frag} {σ : L2.St} {F H : Hp} {ρ : Rho} {α β : Type} {t : Rho → Res α} {f : α → Rho → Res β} {Q : β → Rho → Hp → Hp → Prop} (r : Rel K F H ρ σ) (h : Pend K E (fun ρ => (t ρ).bindX f) ρ σ F H Q) :
    Pend K E0 t ρ σ F H fun a ρ1 F1 H1 => Pend K E (f a) ρ1 σ F1 H1 Q := by
  unfold Pend at h ⊢
  split <;> rename_i e <;> simp only [e, Res.bindX] at h
  intro F1 H1 g
  split <;> rename_i e2 <;> rw [e2] at h
  · exact fun F2 H2 g2 => h F2 H2 (g.trans r g2)
  · exact fun F2 H2 g2 => h F2 H2 (g.trans r g2)
  · exact h
theorem Pend.go {K : PySem.W.Frag} {σ : L2.St} {F H F1 H1 : Hp} {ρ ρ1 : Rho} {α : Type} {t : Rho → Res α} {Q : α → Rho → Hp → Hp → Prop} (r : Rel K F H ρ σ) (g : Go K ρ σ F H ρ1 σ F1 H1) (h : Pend K E (fun _ => t ρ1) ρ σ F H Q) : Pend K E t ρ1 σ F1 H1 Q := by
  unfold Pend at h ⊢
  split <;> rename_i e2 <;> rw [e2] at h
  · exact fun F2 H2 g2 => h F2 H2 (g.trans r g2)
  · exact fun F2 H2 g2 => h F2 H2 (g.trans r g2)
  · exact h
/-- a run that is already known -/
abbrev PendR (K : PySem.W.Frag) (E : EW) {α : Type} (x : Res α) (ρ : Rho) (σ : L2.St) (F H : Hp) (Q : α → Rho → Hp → Hp → Prop) : Prop := Pend K E (fun _ => x) ρ σ F H Q
theorem PendR.bindX {K : PySem.W.Frag} {σ σ4 : L2.St} {F H F3 H3 : Hp} {ρ ρ4 : Rho} {α β : Type} {t : Rho → Res α} {f : α → Rho → Res β} {Q : β → Rho → Hp → Hp → Prop} (h : PendR K E ((t ρ4).bindX f) ρ σ F H Q) :
    Pend K E0 t ρ4 σ4 F3 H3 fun a ρ5 _ _ => PendR K E (f a ρ5) ρ σ F H Q := by
  unfold PendR Pend at h
  unfold Pend
  cases e : t ρ4 with
  | ok a ρ5 =>
    rw [e] at h
    exact fun _ _ _ => h
  | exc c ρ5 => rw [e] at h; exact h.elim
  | bad => rw [e] at h; exact h.elim
theorem wipe_wipe (σ : L2.St) (vs : List Nat) : wipe (wipe σ vs) vs = wipe σ vs := by
  apply List.ext_getElem?
  intro j
  by_cases hj : j ∈ vs
  · rw [wipe_in hj, wipe_in hj, wipe_length]
  · rw [wipe_not hj]
theorem lc_of {ti : XA} {g : XG} {tt : XT} {te : XV} {vs : List Nat} (hv0 : 0 ∉ vs) {σ : L2.St} {H : Hp} {Q : VK} (h : lN X.K E (xLC ti g tt te vs) σ H Q) : tLc (lI X.K E ti) (lG X.K (tOnly vs) g) (lT X.K E0 tt) (lE X.K E0 te) vs σ H Q := by
  obtain ⟨F, ρ, r, p⟩ := h
  refine ⟨F, ρ, r, (Pend.bind r p).mono fun ds ρ1 F1 H1 g1 q J hJ A hA => ?_⟩
  by_cases hc : ds.length ≤ sizeLine ∧ noOwn ρ1 vs = true
  rotate_left
  · unfold Pend at q
    simp only [hc, if_false] at q
  obtain ⟨hz, hno⟩ := hc
  have r1 := g1.rel
  have hAF : F1 A = none := r1.ex.free hA
  have q0 : PendR X.K E (lcRun g tt te vs ds [] ρ1) ρ1 σ F1 H1 fun acc ρ' F' H' => ∀ p o, F' p = none → H' p = some o → Ro X.K F' p o (.lst acc) → ¬ Own ρ' σ p → (Own ρ σ p ∨ H p = none) → Q (.ref p) H' := by
    unfold Pend at q
    simp only [hz, hno, and_self, if_true] at q
    unfold PendR Pend
    cases e : lcRun g tt te vs ds [] ρ1 with
    | ok a ρ5 => rw [e] at q; exact q
    | exc c ρ5 => rw [e] at q; exact q
    | bad => rw [e] at q; exact q
  have start := (Gr.newO (o := .lst []) r1.ex hA).go r1
  refine ⟨fun i m H' => m = ds.length - i ∧ i ≤ ds.length ∧ ∃ F' ρ' acc xs, Go X.K ρ1 σ F1 H1 ρ' σ F' H' ∧ noOwn ρ' vs = true ∧ F' A = none ∧ H' A = some (.lst xs) ∧ RpAll X.K F' xs acc ∧ acc.length ≤ i ∧ ¬ Own ρ' σ A ∧
    PendR X.K E (lcRun g tt te vs (ds.drop i) acc ρ') ρ1 σ F1 H1 fun acc ρ' F' H' => ∀ p o, F' p = none → H' p = some o → Ro X.K F' p o (.lst acc) → ¬ Own ρ' σ p → (Own ρ σ p ∨ H p = none) → Q (.ref p) H', ⟨ds.length, by simp, Nat.zero_le _, F1, ρ1, [], [], start, hno, hAF, upd_same, .nil, Nat.le_refl _, not_own_new r1 hA, by rw [List.drop_zero]; exact q0⟩, ?_⟩
  rintro i m H' ⟨rfl, hi, F', ρ', acc, xs, go, hno', hf, hh, ra, hl, hn, q'⟩
  have r' := go.rel
  obtain ⟨z1, z2⟩ := hJ ρ' σ F' H' go
  by_cases hlt : i < ds.length
  · refine .inr ⟨(z1 i _ (List.getElem?_eq_getElem hlt)).1, fun H2 => i + 1 ≤ ds.length ∧ ∃ F' ρ' acc xs, Go X.K ρ1 σ F1 H1 ρ' σ F' H2 ∧ noOwn ρ' vs = true ∧ F' A = none ∧ H2 A = some (.lst xs) ∧ RpAll X.K F' xs acc ∧ acc.length ≤ i + 1 ∧ ¬ Own ρ' σ A ∧
      PendR X.K E (lcRun g tt te vs (ds.drop (i + 1)) acc ρ') ρ1 σ F1 H1 fun acc ρ' F' H' => ∀ p o, F' p = none → H' p = some o → Ro X.K F' p o (.lst acc) → ¬ Own ρ' σ p → (Own ρ σ p ∨ H p = none) → Q (.ref p) H', fun H2 hN => ⟨ds.length - (i + 1), by omega, rfl, hN.1, hN.2⟩, fun x H3 y => ?_⟩
    obtain ⟨F3, g3, rx⟩ := (z1 i _ (List.getElem?_eq_getElem hlt)).2 x H3 y
    have go3 := go.trans r1 (g3.go r')
    rw [List.drop_eq_getElem_cons hlt] at q'
    have fD3 : F3 A = none := g3.keep A _ nt_lst hh hf
    have hD3 : H3 A = some (.lst xs) := g3.exH A _ hh
    have rw3 := go3.rel.wipe vs
    unfold lcRun at q'
    cases e : g ds[i] (wipeR ρ' vs) with
    | none => unfold PendR Pend at q'; simp only [e] at q'
    | some ρ4 =>
      simp only [e] at q'
      refine ⟨F3, wipeR ρ' vs, ds[i], ρ4, rw3, rx, e, fun σ4 t4 g4 => ⟨(show wipe σ4 vs = wipe (wipe σ vs) vs from t4).trans (wipe_wipe σ vs), F3, ρ4, g4.rel, (PendR.bindX q').mono fun b ρ5 F5 H5 g5 q5 => ?_⟩⟩
      have hw4 : wipe σ4 vs = wipe σ vs := (show wipe σ4 vs = wipe (wipe σ vs) vs from t4).trans (wipe_wipe σ vs)
      have nb : ∀ {ρ5 F5 H5}, Go X.K ρ4 σ4 F3 H3 ρ5 σ4 F5 H5 → Go X.K ρ1 σ F1 H1 (backR ρ' ρ5 vs) σ F5 H5 ∧ F5 A = none ∧ H5 A = some (.lst xs) ∧ ¬ Own (backR ρ' ρ5 vs) σ A ∧ Same F' F5 := fun {ρ5 F5 H5} g5 => by
        have gg := g4.trans rw3 g5
        have b := Go.back hv0 go3.rel hno' gg hw4
        obtain ⟨k1, k2⟩ := b.keep A _ hD3 fD3 hn
        refine ⟨go3.trans r1 b, k2 nt_lst, k1, fun z => ?_, g3.ex.trans b.ex⟩
        rcases b.own A z with z | z
        · exact hn z
        · rw [hD3] at z; cases z
      cases b with
      | false =>
        obtain ⟨n1, n2, n3, n4, n5⟩ := nb g5
        exact ⟨hlt, F5, _, acc, xs, n1, noOwn_back hno', n2, n3, ra.mono n5, Nat.le_succ_of_le hl, n4, q5⟩
      | true =>
        refine ⟨F5, ρ5, g5.rel, (PendR.bindX q5).mono fun y ρ6 F6 H6 g6 q6 v rv => ?_⟩
        obtain ⟨n1, n2, n3, n4, n5⟩ := nb (g5.trans g4.rel g6)
        refine ⟨xs, n3, ?_, hlt, F6, _, acc ++ [y], xs ++ [v], n1.touch r1 hA n2 n3 n4, noOwn_back hno', n2, upd_same, (ra.mono n5).snoc rv, ?_, n4, q6⟩
        · rw [ra.length]
          omega
        · rw [List.length_append]
          simp only [List.length_cons, List.length_nil]
          omega
  · have e : i = ds.length := by omega
    subst e
    refine .inl ⟨z2 _ (Nat.le_refl _), ?_⟩
    rw [List.drop_length] at q'
    exact q' F' H' go A _ hf hh (.lst ra) hn (own_back r g1 (.inr hA))
theorem xn_lc {elt tg iter : Expr} {ifs : List Expr} {scope : Scope} {own : List (Str × Nat)} {ti : XA} {g : XG} {tt : XT} {te : XV} (hc : X.calm = true) (hN : X.N.Nodup) (hi : PI X tg iter (lI X.K E ti)) (ok : BlkOk X.N X.env.scope scope own)
    (hg : ∀ (s : Shared) (H : Hp) (C : Addr) (cl : List (Str × Addr)) (fp : List Addr), PG (X.blk s H scope (compEnvC scope cl C X.env) fp) tg (lG X.K (tOnly (own.map (·.2))) g)) (ht : ∀ (s : Shared) (H : Hp) (C : Addr) (cl : List (Str × Addr)) (fp : List Addr), PTs (X.blk s H scope (compEnvC scope cl C X.env) fp) ifs (lT X.K E0 tt))
    (he : ∀ (s : Shared) (H : Hp) (C : Addr) (cl : List (Str × Addr)) (fp : List Addr), PE (X.blk s H scope (compEnvC scope cl C X.env) fp) elt (lE X.K E0 te)) (hv0 : 0 ∉ own.map (·.2) := by decide) (hs : ∀ x, foldedSetIterable iter X.env x = pure x := by intro _; rfl) :
    PE X (.ListComp elt [⟨tg, iter, ifs, 0⟩] scope pos) (lN X.K E (xLC ti g tt te (own.map (·.2)))) := pe_imp (pe_lc hc hN hi ok hg ht he hs) fun σ H Q h => lc_of hv0 h
/-- .. not owned -/
theorem xs_setLc {i : Nat} {y : Str} {py spos : Pos} {elt tg iter : Expr} {ifs : List Expr} {scope : Scope} {own : List (Str × Nat)} {ti : XA} {g : XG} {tt : XT} {te : XV} (h0 : i ≠ 0) (hc : X.calm = true) (hN : X.N.Nodup) (hy : X.N[i]? = some y) (hyl : X.env.scope.names.lookup y = some .local)
    (hsw : swapsWith (.ListComp elt [⟨tg, iter, ifs, 0⟩] scope pos) (some (.Name y py)) spos.line X.env = pure true) (hi : PI X tg iter (lI X.K E ti)) (ok : BlkOk X.N X.env.scope scope own)
    (hg : ∀ (s : Shared) (H : Hp) (C : Addr) (cl : List (Str × Addr)) (fp : List Addr), PG (X.blk s H scope (compEnvC scope cl C X.env) fp) tg (lG X.K (tOnly (own.map (·.2))) g)) (ht : ∀ (s : Shared) (H : Hp) (C : Addr) (cl : List (Str × Addr)) (fp : List Addr), PTs (X.blk s H scope (compEnvC scope cl C X.env) fp) ifs (lT X.K E0 tt))
    (he : ∀ (s : Shared) (H : Hp) (C : Addr) (cl : List (Str × Addr)) (fp : List Addr), PE (X.blk s H scope (compEnvC scope cl C X.env) fp) elt (lE X.K E0 te)) (hv0 : 0 ∉ own.map (·.2) := by decide) (hs : ∀ x, foldedSetIterable iter X.env x = pure x := by intro _; rfl) :
    PS X (.Assign [.Name y py] (.ListComp elt [⟨tg, iter, ifs, 0⟩] scope pos) spos) (lS X.K E fr (xSet i (xLC ti g tt te (own.map (·.2))))) := ps_imp (ps_setLc hc hN hy hyl hsw hi ok hg ht he hs) fun C σ H h => by
  have h2 : lE X.K E (xLC ti g tt te (own.map (·.2))) σ H (fun x H1 => gName i x σ H1 C.nx) := by
    obtain ⟨F, ρ, r, p⟩ := h
    exact ⟨F, ρ, r, (p.fl r).mono fun d ρ1 F1 H1 g1 q v rv => q _ F1 H1 (Go.setVal h0 g1.rel rv)⟩
  exact lc_of hv0 (lE_of_lN h2)
theorem xts_nil : PTs X [] (lT X.K E xYes) := ⟨fun pins s σ H Q I h => pts_nil.run pins s σ H Q I (by
  obtain ⟨F, ρ, r, p⟩ := h
  exact p F H (Go.refl r))⟩
theorem xts_one {c : Expr} {t : XT} (h : PT X c (lT X.K E t)) : PTs X [c] (lT X.K E t) := pts_one h

def ownL (i : Nat) (ρ : Rho) : Option (List D) := match ρ[i]? with
  | some (.own (.lst ds)) => some ds
  | _ => none
theorem ownL_of {i : Nat} {ρ : Rho} {ds : List D} (h : ownL i ρ = some ds) : ρ[i]? = some (.own (.lst ds)) := by
  unfold ownL at h
  split at h
  · rename_i e
    cases h
    exact e
  · cases h
/-- with the list of slot i -/
def withL (i : Nat) (f : List D → XS) : XS := fun ρ => match ownL i ρ with
  | some ds => f ds ρ
  | none => .bad
def xAppend (i : Nat) (te : XV) : XS := withL i fun _ ρ => (te ρ).fl fun d => withL i fun ds ρ1 => if ds.length < sizeLine then .nx (ρ1.set i (.own (.lst (ds ++ [d])))) else .bad
theorem own_lst {K : PySem.W.Frag} {F : Hp} {p : Addr} {o : HO} {ds : List D} (r : Ro K F p o (.lst ds)) : ∃ xs, o = .lst xs ∧ RpAll K F xs ds := by
  cases r with
  | lst r => exact ⟨_, rfl, r⟩
theorem Rel.ownL {K : PySem.W.Frag} {F H : Hp} {ρ : Rho} {σ : L2.St} {i : Nat} {ds : List D} (r : Rel K F H ρ σ) (h : ρ[i]? = some (.own (.lst ds))) : ∃ p xs, σ[i]? = some (some (.ref p)) ∧ F p = none ∧ H p = some (.lst xs) ∧ RpAll K F xs ds := by
  obtain ⟨p, o, h1, h2, h3, h4⟩ := r.own h
  obtain ⟨xs, rfl, h5⟩ := own_lst h4
  exact ⟨p, xs, h1, h2, h3, h5⟩
theorem PendS.withL {K : PySem.W.Frag} {F H : Hp} {ρ : Rho} {σ : L2.St} {i : Nat} {f : List D → XS} {C : Ends} (h : PendS K E fr (withL i f) ρ σ F H C) : ∃ ds, ρ[i]? = some (.own (.lst ds)) ∧ PendS K E fr (f ds) ρ σ F H C := by
  unfold PendS G.withL at h
  cases e : ownL i ρ with
  | none => simp only [e] at h
  | some ds => simp only [e] at h; exact ⟨ds, ownL_of e, h⟩
theorem PendS.ite {K : PySem.W.Frag} {F H : Hp} {ρ : Rho} {σ : L2.St} {c : Prop} [Decidable c] {t : XS} {C : Ends} (h : PendS K E fr (fun ρ => if c then t ρ else .bad) ρ σ F H C) : c ∧ PendS K E fr t ρ σ F H C := by
  unfold PendS at h
  by_cases hc : c
  · simp only [hc, if_true] at h
    exact ⟨hc, h⟩
  · simp only [hc, if_false] at h
/-- x.append(e) -/
theorem xs_append {i : Nat} {x : Str} {e : Expr} {te : XV} {xp apos p2 : Pos} (hN : X.N[i]? = some x) (hv : Vis X.env.scope x) (he : PE X e (lE X.K E te))
    (hs : PE X (.Call (.Attribute (.Name x xp) "append" apos) [e] [] p2) (tBM X.K "list" rAppend (tVar i) (tCons (lE X.K E te) tNil))) (hq : swapsWith (.Call (.Attribute (.Name x xp) "append" apos) [e] [] p2) none pos.line X.env = pure false := by rfl) :
    PS X (.Expr (.Call (.Attribute (.Name x xp) "append" apos) [e] [] p2) pos) (lS X.K E fr (xAppend i te)) := ps_imp (ps_expr hs hq) fun C σ H h => by
  obtain ⟨F, ρ, r, p⟩ := h
  obtain ⟨ds0, e0, p⟩ := PendS.withL p
  obtain ⟨b, xs, h1, h2, h3, h4⟩ := r.ownL e0
  refine ⟨.ref b, h1, .inl ⟨rfl, xs, SqL.of h3⟩, F, ρ, r, (PendS.fl r p).mono fun d ρ1 F1 H1 g1 q v rv => ?_⟩
  obtain ⟨ds, e1, q⟩ := PendS.withL q
  obtain ⟨b1, xs1, k1, k2, k3, k4⟩ := g1.rel.ownL e1
  rw [h1] at k1
  cases k1
  obtain ⟨hz, q⟩ := PendS.ite q
  refine ⟨b, xs1, v, rfl, rfl, k3, by rw [k4.length]; exact hz, ?_⟩
  exact q σ F1 _ (Go.mut g1.rel e1 h1 k2 k3 (.lst (k4.snoc rv)))
/-- a method without arguments that changes an owned list: reverse, clear -/
def xMut (i : Nat) (f : List D → List D) : XS := withL i fun ds ρ => .nx (ρ.set i (.own (.lst (f ds))))
/-- xs[k] = e -/
def dSetAt (ds : List D) (k d : D) : Option (List D) := match k with
  | .int j => (ixN ds.length j).map fun m => ds.set m d
  | _ => none
def xSetIx (i : Nat) (tk te : XV) : XS := fun ρ => (te ρ).fl fun d => withL i fun _ ρ1 => (tk ρ1).fl fun k => withL i fun ds ρ2 => match dSetAt ds k d with
  | some ds' => .nx (ρ2.set i (.own (.lst ds')))
  | none => .bad
theorem xs_setIx {i : Nat} {x : Str} {k e : Expr} {tk te : XV} {xp sp : Pos} (hN : X.N[i]? = some x) (hv : Vis X.env.scope x) (ho : PE X (.Name x xp) (tVar i)) (hk : PE X k (lE X.K E tk)) (he : PE X e (lE X.K E te))
    (ha : ∀ v, assign (.Subscript (.Name x xp) k sp) X.env v = (do
      let ov ← holding [v] (eval (.Name x xp) X.env)
      let iv ← holding [v, ov] (eval k X.env)
      standAt sp
      holding [v, ov, iv] (setItem ov iv v)
      release [v, ov, iv] []) := by intro _; rfl)
    (hs : swapsWithSole [.Subscript (.Name x xp) k sp] e pos.line X.env = pure false := by rfl) (hw : swappedStores [.Subscript (.Name x xp) k sp] e X.env = pure none := by rfl)
    (h1 : (assignEach [.Subscript (.Name x xp) k sp] X.env).map (·.2) = [assign (.Subscript (.Name x xp) k sp) X.env] := by rfl) :
    PS X (.Assign [.Subscript (.Name x xp) k sp] e pos) (lS X.K E fr (xSetIx i tk te)) := ps_imp (ps_asg he (pg_sub ho hk set_list ha) hs hw h1) fun C σ H h => by
  obtain ⟨F, ρ, r, p⟩ := h
  refine ⟨F, ρ, r, (PendS.fl r p).mono fun d ρ1 F1 H1 g1 q v rv => ?_⟩
  obtain ⟨ds0, e0, q⟩ := PendS.withL q
  obtain ⟨b, xs, z1, z2, z3, z4⟩ := g1.rel.ownL e0
  refine ⟨.ref b, z1, F1, ρ1, g1.rel, (PendS.fl g1.rel q).mono fun kd ρ2 F2 H2 g2 q w rw => ?_⟩
  obtain ⟨ds, e1, q⟩ := PendS.withL q
  obtain ⟨b1, xs1, k1, k2, k3, k4⟩ := g2.rel.ownL e1
  rw [z1] at k1
  cases k1
  unfold PendS at q
  cases e2 : dSetAt ds kd d with
  | none => simp only [e2] at q
  | some ds' =>
    simp only [e2] at q
    unfold dSetAt at e2
    split at e2
    · rename_i j
      cases e3 : ixN ds.length j with
      | none => rw [e3] at e2; cases e2
      | some m =>
        rw [e3] at e2
        cases e2
        cases rw
        refine ⟨b, xs1, j, m, rfl, rfl, k3, by rw [k4.length]; exact e3, ?_⟩
        exact q σ F2 _ (Go.mut g2.rel e1 z1 k2 k3 (.lst (RpAll.set (rv.mono g2.ex) m k4)))
    · cases e2
/-- xs[k] of an owned list -/
def dAt (ds : List D) (k : D) : Option D := match k with
  | .int j => atI ds j
  | _ => none
/-- the list that can be read at slot i -/
def rdL (i : Nat) (ρ : Rho) : Option (List D) := match rdD i ρ with
  | some (.lst ds) => some ds
  | _ => none
theorem Rel.rdL {K : PySem.W.Frag} {F H : Hp} {ρ : Rho} {σ : L2.St} {i : Nat} {ds : List D} (r : Rel K F H ρ σ) (h : rdL i ρ = some ds) : ∃ p xs, σ[i]? = some (some (.ref p)) ∧ SqL K H p xs ∧ RpAll K F xs ds := by
  unfold G.rdL at h
  split at h
  · rename_i e
    cases h
    obtain ⟨v, h1, h2⟩ := r.rd e
    cases h2 with
    | val rp _ => cases rp with | lst hf ra => exact ⟨_, _, h1, SqL.of (r.ex _ _ hf), ra⟩
    | own a b c =>
      obtain ⟨xs, rfl, h5⟩ := own_lst c
      exact ⟨_, xs, h1, SqL.of b, h5⟩
  · cases h
def withR {α : Type} (i : Nat) (f : List D → Rho → Res α) : Rho → Res α := fun ρ => match rdL i ρ with
  | some ds => f ds ρ
  | none => .bad
theorem Pend.withR {α : Type} {K : PySem.W.Frag} {F H : Hp} {ρ : Rho} {σ : L2.St} {i : Nat} {f : List D → Rho → Res α} {Q : α → Rho → Hp → Hp → Prop} (h : Pend K E (withR i f) ρ σ F H Q) : ∃ ds, rdL i ρ = some ds ∧ Pend K E (f ds) ρ σ F H Q := by
  unfold Pend G.withR at h
  cases e : G.rdL i ρ with
  | none => simp only [e] at h
  | some ds => simp only [e] at h; exact ⟨ds, rfl, h⟩
def xIxO (i : Nat) (tk : XV) : XV := withR i fun _ ρ => (tk ρ).bind fun k => withR i fun ds => lift (dAt ds) k
theorem atI_rp {K : PySem.W.Frag} {F : Hp} {xs : List V} {ds : List D} {j : Int} {d : D} (r : RpAll K F xs ds) (h : atI ds j = some d) : ∃ v, atI xs j = some v ∧ Rp K F v d := by
  unfold atI at h ⊢
  rw [r.length]
  cases e : ixN ds.length j with
  | none => rw [e] at h; cases h
  | some m =>
    rw [e] at h
    exact r.get h
theorem dAt_of {ds : List D} {k d : D} (h : dAt ds k = some d) : ∃ j : Int, k = .int j ∧ atI ds j = some d := by
  unfold dAt at h
  split at h
  · exact ⟨_, rfl, h⟩
  · cases h
theorem xe_ixO {i : Nat} {x : Str} {k : Expr} {tk : XV} {xp : Pos} (ho : PE X (.Name x xp) (tVar i)) (hk : PE X k (lE X.K E tk)) (hs : PlainIx k) : PE X (.Subscript (.Name x xp) k pos) (lE X.K E (xIxO i tk)) := pe_imp (pe_ix ix_list ho hk hs) fun σ H Q h => by
  obtain ⟨F, ρ, r, p⟩ := h
  obtain ⟨ds0, e0, p⟩ := Pend.withR p
  obtain ⟨b, xs, z1, z3, z4⟩ := r.rdL e0
  refine ⟨.ref b, z1, F, ρ, r, (Pend.bind r p).mono fun kd ρ1 F1 H1 g1 q w rw => ?_⟩
  obtain ⟨ds, e1, q⟩ := Pend.withR q
  obtain ⟨b1, xs1, k1, k3, k4⟩ := g1.rel.rdL e1
  rw [z1] at k1
  cases k1
  obtain ⟨d, e, q2⟩ := q.lift
  obtain ⟨j, rfl, e⟩ := dAt_of e
  cases rw
  obtain ⟨v, hv, rv⟩ := atI_rp k4 e
  exact ⟨b, xs1, j, v, rfl, rfl, k3, hv, q2 F1 H1 (Go.refl g1.rel) v rv⟩
/-- len of an owned list -/
def xLenO (i : Nat) : XV := withR i fun ds ρ => .ok (.int (ds.length : Nat)) ρ
theorem xe_lenO {i : Nat} {x : Str} {xp p : Pos} (ho : PE X (.Name x xp) (tVar i)) (hg : Gl X "len") (hm : X.mg "len" = none) (hs : starEach [.Name x xp] X.env = (false, eval (.Name x xp) X.env) :: starEach [] X.env := by rfl) (hpl : (backTo pos (starEach [] X.env)).any (·.1) = false := by rfl) :
    PE X (.Call (.Name "len" p) [.Name x xp] [] pos) (lE X.K E (xLenO i)) := pe_imp (pe_callB call_len_seq hg hm PySem.boot_len (pa_cons ho pa_nil hs) (he := hs) (hpl := hpl)) fun σ H Q h => by
  obtain ⟨F, ρ, r, p⟩ := h
  obtain ⟨ds0, e0, p⟩ := Pend.withR p
  obtain ⟨b, xs, z1, z3, z4⟩ := r.rdL e0
  refine ⟨.ref b, z1, b, xs, rfl, .inl z3, ?_⟩
  have := p F H (Go.refl r) (.int (xs.length : Nat)) (by rw [z4.length]; exact .int _)
  exact this
end

inductive FR where
  | ok (d : D) (ps : List D) | exc (c : String) (ps : List D) | bad
abbrev DF := List D → FR
/-- the arguments of a def: md tells which ones are only read -/
inductive RaL (K : PySem.W.Frag) (F H : Hp) (no : Addr → Prop) : List Bool → List V → List D → Prop
  | nil : RaL K F H no [] [] []
  | val {v : V} {d : D} {ms : List Bool} {vs : List V} {ds : List D} : Rp K F v d → RaL K F H no ms vs ds → RaL K F H no (false :: ms) (v :: vs) (d :: ds)
  | rd {v : V} {d : D} {ms : List Bool} {vs : List V} {ds : List D} : Ra K F H v d → (∀ p, v = .ref p → ¬ no p) → RaL K F H no ms vs ds → RaL K F H no (true :: ms) (v :: vs) (d :: ds)
def Slot.of : Bool → D → Slot
  | false, d => .val d
  | true, d => .rd d
def ini : List Bool → List D → Option (List Slot)
  | [], [] => some []
  | m :: ms, d :: ds => (ini ms ds).map (Slot.of m d :: ·)
  | _, _ => none
section
variable (K : PySem.W.Frag) (cv : String → Value) (fr : Bool)
def Out (F H : Hp) (d : D) (Q : VK) : Prop := (fr = false → OutV K F H d Q) ∧ (fr = true → OutN K F H d Q)
/-- a def that changes nothing -/
def spP (md : List Bool) (g : DF) : Sp := fun vs H Q E => ∃ F ds, Same F H ∧ RaL K F H (fun _ => False) md vs ds ∧ match g ds with
  | .ok d _ => Out K fr F H d Q
  | .exc c _ => ∀ F' H', Gr F H F' H' → E (cv c) none H'
  | .bad => False
structure GrB (b : Addr) (F H F' H' : Hp) : Prop where
  ex : Same F F'
  sub : Same F' H'
  keep : ∀ a o, a ≠ b → H a = some o → H' a = some o ∧ (NTup o → F a = none → F' a = none)
/-- a def that changes its first argument -/
def spB (md : List Bool) (g : DF) : Sp := fun vs H Q E => ∃ F b o d0 vs' ds, vs = .ref b :: vs' ∧ Same F H ∧ F b = none ∧ H b = some o ∧ Ro K F b o d0 ∧ RaL K F H (· = b) md vs' ds ∧ match g (d0 :: ds) with
  | .ok d [p'] => ∀ F' H' o', GrB b F H F' H' → F' b = none → H' b = some o' → Ro K F' b o' p' → (fr = false → ∀ v, Rp K F' v d → Q v H') ∧ (fr = true → ∀ p o2, H p = none → F' p = none → H' p = some o2 → Ro K F' p o2 d → Q (.ref p) H')
  | .exc c [p'] => ∀ F' H' o', GrB b F H F' H' → F' b = none → H' b = some o' → Ro K F' b o' p' → E (cv c) none H'
  | _ => False
end
def runP (md : List Bool) (n : Nat) (fr : Bool) (body : XS) : DF := fun ds => match ini md ds with
  | some ss => (match body (ss ++ List.replicate (n - ss.length) .emp) with
    | .ret d _ => .ok d []
    | .nx _ => if fr = true then .bad else .ok .non []
    | .exc c _ => .exc c []
    | _ => .bad)
  | none => .bad
def slot0 (ρ : Rho) : List D := match ρ with
  | .own p :: _ => [p]
  | _ => []
def runB (md : List Bool) (n : Nat) (fr : Bool) (body : XS) : DF
  | d0 :: ds => (match ini md ds with
    | some ss => (match body (.own d0 :: ss ++ List.replicate (n - (ss.length + 1)) .emp) with
      | .ret d ρ => .ok d (slot0 ρ)
      | .nx ρ => if fr = true then .bad else .ok .non (slot0 ρ)
      | .exc c ρ => .exc c (slot0 ρ)
      | _ => .bad)
    | none => .bad)
  | [] => .bad
theorem RaL.len {K : PySem.W.Frag} {F H : Hp} {no : Addr → Prop} : ∀ {md : List Bool} {vs : List V} {ds : List D}, RaL K F H no md vs ds → vs.length = md.length ∧ ds.length = md.length
  | _, _, _, .nil => ⟨rfl, rfl⟩
  | _, _, _, .val _ r => ⟨congrArg (· + 1) r.len.1, congrArg (· + 1) r.len.2⟩
  | _, _, _, .rd _ _ r => ⟨congrArg (· + 1) r.len.1, congrArg (· + 1) r.len.2⟩
theorem ini_len : ∀ {md : List Bool} {ds : List D} {ss : List Slot}, ini md ds = some ss → ss.length = md.length
  | [], [], _, h => by cases h; rfl
  | m :: ms, d :: ds, _, h => by
    unfold ini at h
    cases q : ini ms ds with
    | none => rw [q] at h; cases h
    | some ss => rw [q] at h; cases h; exact congrArg (· + 1) (ini_len q)
  | [], _ :: _, _, h => by cases h
  | _ :: _, [], _, h => by cases h
/-- slot by slot -/
theorem ini_at {K : PySem.W.Frag} {F H : Hp} {no : Addr → Prop} : ∀ {md : List Bool} {vs : List V} {ds : List D} {ss : List Slot}, RaL K F H no md vs ds → ini md ds = some ss → ∀ (j : Nat) (s : Slot), ss[j]? = some s → ∃ v, vs[j]? = some v ∧ SRel K F H s (some v) ∧ (∀ d, s ≠ .own d) ∧ ∀ d p, s = .rd d → v = .ref p → ¬ no p
  | _, _, _, _, .nil, h, j, s, e => by cases h; simp at e
  | _, _, _, _, .val (ms := ms) (ds := ds) rp r, h, j, s, e => by
    unfold ini at h
    cases q : ini ms ds with
    | none => rw [q] at h; cases h
    | some ss =>
      rw [q] at h; cases h
      cases j with
      | zero => simp at e; subst e; exact ⟨_, rfl, .val rp, fun d z => (by cases z), fun d p z => (by cases z)⟩
      | succ j =>
        obtain ⟨v, k1, k2⟩ := ini_at r q j s (by simpa using e)
        exact ⟨v, by simpa using k1, k2⟩
  | _, _, _, _, .rd (ms := ms) (ds := ds) rp hn r, h, j, s, e => by
    unfold ini at h
    cases q : ini ms ds with
    | none => rw [q] at h; cases h
    | some ss =>
      rw [q] at h; cases h
      cases j with
      | zero => simp at e; subst e; exact ⟨_, rfl, .rd rp, fun d z => (by cases z), fun d p _ e2 => hn p e2⟩
      | succ j =>
        obtain ⟨v, k1, k2⟩ := ini_at r q j s (by simpa using e)
        exact ⟨v, by simpa using k1, k2⟩
section
variable {K : PySem.W.Frag} {F H : Hp}
theorem start_vals {n : Nat} {no : Addr → Prop} {md : List Bool} (ex : Same F H) {vs : List V} {ds : List D} {ss : List Slot} (ra : RaL K F H no md vs ds) (hi : ini md ds = some ss) (hn : vs.length ≤ n) : Rel K F H (ss ++ List.replicate (n - ss.length) .emp) (vs.map some ++ List.replicate (n - vs.length) none) ∧ (∀ p, ¬ Own (ss ++ List.replicate (n - ss.length) .emp) (vs.map some ++ List.replicate (n - vs.length) none) p) ∧
    (∀ (j : Nat) (d : D), (ss ++ List.replicate (n - ss.length) Slot.emp)[j]? = some (Slot.own d) → False) ∧ ∀ (j : Nat) (d : D) (p : Addr), (ss ++ List.replicate (n - ss.length) Slot.emp)[j]? = some (Slot.rd d) → (vs.map some ++ List.replicate (n - vs.length) none)[j]? = some (some (V.ref p)) → ¬ no p := by
  have hl : vs.length = ss.length := ra.len.1.trans (ini_len hi).symm
  have at1 : ∀ (j : Nat) (s : Slot), (ss ++ List.replicate (n - ss.length) Slot.emp)[j]? = some s → s = .emp ∨ ∃ v, (vs.map some ++ List.replicate (n - vs.length) none)[j]? = some (some v) ∧ SRel K F H s (some v) ∧ (∀ d, s ≠ .own d) ∧ ∀ d p, s = .rd d → v = .ref p → ¬ no p := fun j s h1 => by
    by_cases hj : j < ss.length
    · rw [List.getElem?_append_left hj] at h1
      obtain ⟨v, k1, k2⟩ := ini_at ra hi j s h1
      refine .inr ⟨v, ?_, k2⟩
      rw [List.getElem?_append_left (by rw [List.length_map, hl]; exact hj), List.getElem?_map, k1]
      rfl
    · rw [List.getElem?_append_right (by omega)] at h1
      exact .inl (List.eq_of_mem_replicate (List.mem_of_getElem? h1))
  have no1 : ∀ (j : Nat) (d : D), (ss ++ List.replicate (n - ss.length) Slot.emp)[j]? = some (.own d) → False := fun j d h => by
    rcases at1 j _ h with z | ⟨v, _, _, z, _⟩
    · cases z
    · exact z d rfl
  refine ⟨⟨ex, by simp [hl], fun j s o h1 h2 => ?_, fun j _ d _ _ h => (no1 j d h).elim, fun j d p _ _ ⟨k, e, z, _⟩ => no1 k e z⟩, fun p ⟨j, d, h, _⟩ => no1 j d h, no1, fun j d p h1 h2 => ?_⟩
  · rcases at1 j _ h1 with z | ⟨v, k1, k2, _⟩
    · subst z; exact .emp
    · rw [h2] at k1; cases k1; exact k2
  · rcases at1 j _ h1 with z | ⟨v, k1, _, _, k2⟩
    · cases z
    · rw [h2] at k1; cases k1; exact k2 d p rfl rfl
end
section
variable {P : Program} {w : World} {K : PySem.W.Frag} {mg : Str → Option Value} {base : Heap} {cv : String → Value}
abbrev EX (cv : String → Value) (E : XK) : EW := fun c _ H => E (cv c) none H
/-- a def's promise by its body -/
theorem fn_pure {fr : Bool} {x qual : Str} {st : Stmt} {f : Addr} {fd : FuncData} {N ps : List Str} {k : Nat} {body : XS} (md : List Bool) (FN : Fun K x qual st f fd) (S : FnScope N ps (defScope st)) (g : DF) (hg : g = runP md N.length fr body) (hp : ps.length ≤ N.length) (hm : md.length = ps.length)
    (hbody : ∀ (cdv : Value) (A : Around) (outer : List Env) (s : Shared) (H : Hp) (E : XK), Room k (A.deeper (envOfC qual (defScope st) s.heap.objs.size f cdv)) →
      PSs (cxOf (L2.CX P w) P w K mg base N qual (defScope st) f cdv A outer s H E) (defBody st) (lS K (EX cv E) fr body)) : FnOk P w K mg base (L2.CX P w) (k + 1) f fd ps (spP K cv fr md g) := by
  subst hg
  have len : ∀ vs H Q E, spP K cv fr md (runP md N.length fr body) vs H Q E → vs.length = ps.length := fun vs H Q E h => by
    obtain ⟨F, ds, _, ra, h⟩ := h
    exact ra.len.1.trans hm
  refine FN.okX S len fun cdv A outer s H vs Q E hr h => ⟨_, hbody cdv A outer s H E hr, ?_⟩
  have hlen := len vs H Q E h
  obtain ⟨F, ds, ex, ra, h⟩ := h
  unfold runP at h
  cases hi : ini md ds with
  | none => rw [hi] at h; exact h.elim
  | some ss =>
  rw [hi] at h
  simp only at h
  obtain ⟨r, no, _⟩ := start_vals (n := N.length) ex ra hi (by rw [hlen]; exact hp)
  refine ⟨F, _, r, ?_⟩
  have gr : ∀ {ρ' σ' F' H'}, Go K (ss ++ List.replicate (N.length - ss.length) .emp) (vs.map some ++ List.replicate (N.length - vs.length) none) F H ρ' σ' F' H' → Gr F H F' H' := fun {ρ' σ' F' H'} g => by
    refine ⟨g.ex, fun a o e => ?_, g.rel.ex, fun a o n e1 e2 => (g.keep a o e1 e2 (no a)).2 n⟩
    exact g.sameH r e (no a)
  unfold PendS
  split <;> rename_i e <;> simp only [e] at h
  · intro σ' F' H' g
    cases fr with
    | true => simp only [if_true] at h
    | false =>
      simp only [Bool.false_eq_true, if_false] at h
      exact h.1 rfl .non F' H' (gr g) .non
  · refine ⟨fun ef v σ' F' H' g rv => h.1 ef v F' H' (gr g) rv, fun ef p o σ' F' H' g h1 h2 h3 h4 h5 => ?_⟩
    refine h.2 ef p o F' H' (gr g) ?_ h1 h2 h3
    rcases h5 with z | z
    · exact (no p z).elim
    · exact z
  · exact fun σ' F' H' g => h F' H' (gr g)
end
end G


namespace G
open PySem PySem.Spec PyProof.Rows L2

section
variable {P : Program} {w : World} {K : PySem.W.Frag} {mg : Str → Option Value} {base : Heap} {cv : String → Value}
theorem start_bor {F H : Hp} {n : Nat} {md : List Bool} {b : Addr} {o : HO} {d0 : D} {vs : List V} {ds : List D} {ss : List Slot} (ex : Same F H) (hf : F b = none) (hh : H b = some o) (ro : Ro K F b o d0) (ra : RaL K F H (· = b) md vs ds) (hi : ini md ds = some ss) (hn : vs.length + 1 ≤ n) :
    Rel K F H (.own d0 :: ss ++ List.replicate (n - (ss.length + 1)) .emp) (L2.start (List.replicate n "") (.ref b :: vs)) ∧
      (∀ p, Own (.own d0 :: ss ++ List.replicate (n - (ss.length + 1)) .emp) (L2.start (List.replicate n "") (.ref b :: vs)) p → p = b) := by
  have hl : vs.length = ss.length := ra.len.1.trans (ini_len hi).symm
  have es : L2.start (List.replicate n "") (.ref b :: vs) = some (.ref b) :: (vs.map some ++ List.replicate (n - (vs.length + 1)) none) := by
    unfold L2.start
    simp
  rw [es]
  have er : (Slot.own d0 :: ss ++ List.replicate (n - (ss.length + 1)) .emp) = Slot.own d0 :: (ss ++ List.replicate (n - 1 - ss.length) .emp) := by
    rw [List.cons_append, show n - (ss.length + 1) = n - 1 - ss.length by omega]
  rw [er, show n - (vs.length + 1) = n - 1 - vs.length by omega]
  obtain ⟨r, _, no', nr⟩ := start_vals (n := n - 1) ex ra hi (by omega)
  have only : ∀ p, Own (Slot.own d0 :: (ss ++ List.replicate (n - 1 - ss.length) .emp)) (some (.ref b) :: (vs.map some ++ List.replicate (n - 1 - vs.length) none)) p → p = b := fun p h => by
    obtain ⟨j, d, h1, h2⟩ := h
    cases j with
    | zero => simp at h2; exact h2.symm
    | succ j => exact (no' j d (by simpa using h1)).elim
  refine ⟨⟨ex, by rw [List.length_cons, List.length_cons, r.len], fun j s v h1 h2 => ?_, fun j k d1 d2 p h1 h2 h3 h4 => ?_, fun j d p h1 h2 h3 => ?_⟩, only⟩
  · cases j with
    | zero => simp at h1 h2; subst h1 h2; exact .own hf hh ro
    | succ j => exact r.at' j s v (by simpa using h1) (by simpa using h2)
  · cases j with
    | zero =>
      cases k with
      | zero => rfl
      | succ k => exact (no' k d2 (by simpa using h2)).elim
    | succ j => exact (no' j d1 (by simpa using h1)).elim
  · cases j with
    | zero => simp at h1
    | succ j => exact nr j d p (by simpa using h1) (by simpa using h2) (only p h3)
theorem start_len {N : List Str} {vs : List V} : L2.start N vs = L2.start (List.replicate N.length "") vs := by
  unfold L2.start
  rw [List.length_replicate]
theorem slot0_of {F H : Hp} {ρ : Rho} {σ : L2.St} {p' : D} (r : Rel K F H ρ σ) (e : slot0 ρ = [p']) : ρ[0]? = some (.own p') := by
  unfold slot0 at e
  split at e
  · cases e; rfl
  · cases e
/-- .. that changes its first argument; the slots of the parameters are never stored to: h0 -/
theorem fn_bor {fr : Bool} {x qual : Str} {st : Stmt} {f : Addr} {fd : FuncData} {N ps : List Str} {k : Nat} {body : XS} (md : List Bool) (FN : Fun K x qual st f fd) (S : FnScope N ps (defScope st)) (g : DF) (hg : g = runB md N.length fr body) (hp : ps.length ≤ N.length) (hm : md.length + 1 = ps.length)
    (hbody : ∀ (cdv : Value) (A : Around) (outer : List Env) (s : Shared) (H : Hp) (E : XK), Room k (A.deeper (envOfC qual (defScope st) s.heap.objs.size f cdv)) →
      PSs (cxOf (L2.CX P w) P w K mg base N qual (defScope st) f cdv A outer s H E) (defBody st) (lS K (EX cv E) fr body)) : FnOk P w K mg base (L2.CX P w) (k + 1) f fd ps (spB K cv fr md g) := by
  subst hg
  have len : ∀ vs H Q E, spB K cv fr md (runB md N.length fr body) vs H Q E → vs.length = ps.length := fun vs H Q E h => by
    obtain ⟨F, b, o, d0, vs', ds, rfl, _, _, _, _, ra, h⟩ := h
    rw [List.length_cons, ra.len.1, hm]
  refine FN.okX S len fun cdv A outer s H vs Q E hr h => ⟨_, hbody cdv A outer s H E hr, ?_⟩
  have hlen := len vs H Q E h
  obtain ⟨F, b, o, d0, vs', ds, rfl, ex, hf, hh, ro, ra, h⟩ := h
  rw [start_len]
  unfold runB at h
  cases hi : ini md ds with
  | none => simp only [hi] at h
  | some ss =>
  simp only [hi] at h
  obtain ⟨r, only⟩ := start_bor (n := N.length) ex hf hh ro ra hi (by rw [List.length_cons] at hlen; omega)
  refine ⟨F, _, r, ?_⟩
  have s0 : (L2.start (List.replicate N.length "") (.ref b :: vs'))[0]? = some (some (.ref b)) := by unfold L2.start; rfl
  -- what stands at the end
  have ends : ∀ {ρ' : Rho} {σ' : L2.St} {F' H' : Hp} {p' : D}, Go K (.own d0 :: ss ++ List.replicate (N.length - (ss.length + 1)) .emp) (L2.start (List.replicate N.length "") (.ref b :: vs')) F H ρ' σ' F' H' → slot0 ρ' = [p'] →
      GrB b F H F' H' ∧ F' b = none ∧ ∃ o', H' b = some o' ∧ Ro K F' b o' p' := fun {ρ' σ' F' H' p'} g e => by
    obtain ⟨b2, o2, k1, k2, k3, k4⟩ := g.rel.own (slot0_of g.rel e)
    rw [g.low, s0] at k1
    cases k1
    refine ⟨⟨g.ex, g.rel.ex, fun a o ha e1 => ?_⟩, k2, o2, k3, k4⟩
    have hn : ¬ Own (.own d0 :: ss ++ List.replicate (N.length - (ss.length + 1)) .emp) (L2.start (List.replicate N.length "") (.ref b :: vs')) a := fun z => ha (only a z)
    exact ⟨g.sameH r e1 hn, fun n e2 => (g.keep a o e1 e2 hn).2 n⟩
  have hs : ∀ {ρ' : Rho} {σ' : L2.St} {F' H' : Hp}, Go K (.own d0 :: ss ++ List.replicate (N.length - (ss.length + 1)) .emp) (L2.start (List.replicate N.length "") (.ref b :: vs')) F H ρ' σ' F' H' → ∃ p', slot0 ρ' = [p'] := fun {ρ' σ' F' H'} g => by
    obtain ⟨d', hd'⟩ := g.lowO d0 rfl
    refine ⟨d', ?_⟩
    cases ρ' with
    | nil => cases hd'
    | cons x y => cases hd'; rfl
  unfold PendS
  split <;> rename_i e <;> simp only [e] at h
  · intro σ' F' H' g
    cases fr with
    | true => simp only [if_true] at h
    | false =>
      simp only [Bool.false_eq_true, if_false] at h
      obtain ⟨p', hp'⟩ := hs g
      rw [hp'] at h
      obtain ⟨g1, g2, o', g3, g4⟩ := ends g hp'
      exact (h F' H' o' g1 g2 g3 g4).1 trivial .non .non
  · rename_i d ρ'
    refine ⟨fun ef v σ' F' H' g rv => ?_, fun ef p o2 σ' F' H' g h1 h2 h3 h4 h5 => ?_⟩
    · obtain ⟨p', hp'⟩ := hs g
      rw [hp'] at h
      obtain ⟨g1, g2, o', g3, g4⟩ := ends g hp'
      exact (h F' H' o' g1 g2 g3 g4).1 ef v rv
    · obtain ⟨p', hp'⟩ := hs g
      rw [hp'] at h
      obtain ⟨g1, g2, o', g3, g4⟩ := ends g hp'
      refine (h F' H' o' g1 g2 g3 g4).2 ef p o2 ?_ h1 h2 h3
      rcases h5 with z | z
      · exfalso
        have := only p z
        subst this
        refine h4 ⟨0, p', slot0_of g.rel hp', ?_⟩
        rw [g.low, s0]
      · exact z
  · intro σ' F' H' g
    obtain ⟨p', hp'⟩ := hs g
    rw [hp'] at h
    obtain ⟨g1, g2, o', g3, g4⟩ := ends g hp'
    exact h F' H' o' g1 g2 g3 g4
end

inductive AL (K : PySem.W.Frag) (F : Hp) (ρ : Rho) (σ : L2.St) (ban : Nat) : List Bool → List V → List D → Prop
  | nil : AL K F ρ σ ban [] [] []
  | val {v : V} {d : D} {ms : List Bool} {vs : List V} {ds : List D} : Rp K F v d → AL K F ρ σ ban ms vs ds → AL K F ρ σ ban (false :: ms) (v :: vs) (d :: ds)
  | valR {v : V} {d : D} {ms : List Bool} {vs : List V} {ds : List D} : Rp K F v d → nofx d = true → AL K F ρ σ ban ms vs ds → AL K F ρ σ ban (true :: ms) (v :: vs) (d :: ds)
  | own {v : V} {d : D} {ms : List Bool} {vs : List V} {ds : List D} (j : Nat) : j ≠ ban → σ[j]? = some (some v) → rdD j ρ = some d → AL K F ρ σ ban ms vs ds → AL K F ρ σ ban (true :: ms) (v :: vs) (d :: ds)
section
variable {K : PySem.W.Frag} {F H : Hp} {ρ : Rho} {σ : L2.St} {ban : Nat}
theorem rdD_of {j : Nat} {d : D} (h : rdD j ρ = some d) : ρ[j]? = some (.own d) ∨ ρ[j]? = some (.rd d) := by
  unfold rdD at h
  split at h
  · cases h; exact .inl ‹_›
  · cases h; exact .inr ‹_›
  · cases h
theorem AL.ral' {no : Addr → Prop} (r : Rel K F H ρ σ) (hf : ∀ p, no p → F p = none) (ho : ∀ (j : Nat) (d : D) (p : Addr), j ≠ ban → rdD j ρ = some d → σ[j]? = some (some (.ref p)) → ¬ no p) : ∀ {md : List Bool} {vs : List V} {ds : List D}, AL K F ρ σ ban md vs ds → RaL K F H no md vs ds
  | _, _, _, .nil => .nil
  | _, _, _, .val a b => .val a (b.ral' r hf ho)
  | _, _, _, .valR a n b => .rd (.val a n) (fun p e z => by subst e; exact rp_at a n (hf p z)) (b.ral' r hf ho)
  | _, _, _, .own j hj a h b => by
    obtain ⟨v', h1, h2⟩ := r.rd h
    rw [a] at h1
    cases h1
    exact .rd h2 (fun p e => by subst e; exact ho j _ p hj h a) (b.ral' r hf ho)
theorem AL.ral (r : Rel K F H ρ σ) {md : List Bool} {vs : List V} {ds : List D} (h : AL K F ρ σ ban md vs ds) : RaL K F H (fun _ => False) md vs ds := h.ral' r (fun _ z => z.elim) fun _ _ _ _ _ _ z => z
theorem AL.ralB {b : Addr} {d0 : D} (r : Rel K F H ρ σ) (hi : ρ[ban]? = some (.own d0)) (hs : σ[ban]? = some (some (.ref b))) (hf : F b = none) {md : List Bool} {vs : List V} {ds : List D} (h : AL K F ρ σ ban md vs ds) : RaL K F H (· = b) md vs ds :=
  h.ral' r (fun p z => by rw [z]; exact hf) fun j d p hj hd hp z => by
    subst z
    rcases rdD_of hd with k | k
    · exact hj (r.dis j ban d d0 p k hi hp hs)
    · exact r.rdis j d p k hp ⟨ban, d0, hi, hs⟩
def lM (K : PySem.W.Frag) (E : EW) (ban : Nat) (md : List Bool) (t : XA) : TA := fun σ H Q => ∃ F ρ, Rel K F H ρ σ ∧ Pend K E t ρ σ F H fun ds ρ' F' H' => ∀ vs, AL K F' ρ' σ ban md vs ds → Q vs H'
end
section
variable {X : Cx} {E : EW} {ta : XV} {ban : Nat}
theorem xm_nil : PA X [] (lM X.K E ban [] xNil) := pa_imp pa_nil fun σ H Q h => by
  obtain ⟨F, ρ, r, p⟩ := h
  exact p F H (Go.refl r) [] .nil
theorem xm_val {e : Expr} {es : List Expr} {tr : XA} {md : List Bool} (ha : PE X e (lE X.K E ta)) (hr : PA X es (lM X.K E ban md tr)) (hs : starEach (e :: es) X.env = (false, eval e X.env) :: starEach es X.env := by rfl) : PA X (e :: es) (lM X.K E ban (false :: md) (xCons ta tr)) := by
  refine pa_imp (pa_cons ha hr hs) fun σ H Q h => ?_
  obtain ⟨F, ρ, r, p⟩ := h
  refine ⟨F, ρ, r, (Pend.bind r p).mono fun x ρ1 F1 H1 g1 q v rv => ⟨F1, ρ1, g1.rel, (Pend.bind g1.rel q).mono fun xs ρ2 F2 H2 g2 q vs rs => ?_⟩⟩
  exact q F2 H2 (Go.refl g2.rel) (v :: vs) (.val (rv.mono g2.ex) rs)
def xConsR (ta : XV) (tr : XA) : XA := fun ρ => (ta ρ).bind fun x ρ1 => (tr ρ1).bind fun xs ρ2 => if nofx x = true then .ok (x :: xs) ρ2 else .bad
def xConsO (j : Nat) (tr : XA) : XA := fun ρ => match rdD j ρ with
  | none => .bad
  | some _ => (tr ρ).bind fun ds ρ1 => match rdD j ρ1 with
    | some d => .ok (d :: ds) ρ1
    | none => .bad
end

abbrev EWx (cv : String → Value) (W : WX) : EW := fun c σ H => W (cv c) none σ H
def FR.res (r : FR) (ρ : Rho) : Res D := match r with
  | .ok d _ => .ok d ρ
  | .exc c _ => .exc c ρ
  | .bad => .bad
def xCall (g : DF) (t : XA) : XV := fun ρ => (t ρ).bind fun ds ρ1 => (g ds).res ρ1
section
variable {X : Cx} {cv : String → Value} {pos : Pos} {W : WX}
theorem call_of {ban : Nat} {md : List Bool} {g : DF} {t : XA} {σ : L2.St} {H : Hp} {Q : VK} (h : lE X.K (EWx cv W) (xCall g t) σ H Q) : tCallS (spP X.K cv false md g) (WE W) (lM X.K (EWx cv W) ban md t) σ H Q := by
  obtain ⟨F, ρ, r, p⟩ := h
  refine ⟨F, ρ, r, (Pend.bind r p).mono fun ds ρ1 F1 H1 g1 q vs ra => ⟨F1, ds, g1.rel.ex, ra.ral g1.rel, ?_⟩⟩
  unfold Pend FR.res at q
  cases e : g ds with
  | ok d ps => simp only [e] at q; exact ⟨fun _ => outV_of g1.rel q, fun z => by cases z⟩
  | exc c ps => simp only [e] at q; exact fun F' H' gr => q F' H' (gr.go g1.rel)
  | bad => simp only [e] at q
theorem callN_of {ban : Nat} {md : List Bool} {g : DF} {t : XA} {σ : L2.St} {H : Hp} {Q : VK} (h : lN X.K (EWx cv W) (xCall g t) σ H Q) : tCallS (spP X.K cv true md g) (WE W) (lM X.K (EWx cv W) ban md t) σ H Q := by
  obtain ⟨F, ρ, r, p⟩ := h
  refine ⟨F, ρ, r, (Pend.bind r p).mono fun ds ρ1 F1 H1 g1 q vs ra => ⟨F1, ds, g1.rel.ex, ra.ral g1.rel, ?_⟩⟩
  unfold Pend FR.res at q
  cases e : g ds with
  | ok d ps => simp only [e] at q; exact ⟨fun z => (by cases z), fun _ => outN_of r g1 q⟩
  | exc c ps => simp only [e] at q; exact fun F' H' gr => q F' H' (gr.go g1.rel)
  | bad => simp only [e] at q
theorem xe_call {ban : Nat} {md : List Bool} {k : Nat} {f : Addr} {fd : FuncData} {ps : List Str} {g : DF} {x : Str} {p : Pos} {e : Expr} {es : List Expr} {t : XA} (tk : Takes X W) (FN : FnOk X.prog X.w X.K X.mg X.base (L2.CX X.prog X.w) k f fd ps (spP X.K cv false md g)) (hr : Room k X.A) (hg : Gl X x) (hm : X.mg x = some (.ref f)) (hk : PySem.W.keepIn X.K (.ref f) = true) (hb : Binds X.K fd ps [])
    (ha : PA X (e :: es) (lM X.K (EWx cv W) ban md t)) (hdb : (x == ("__debug__" : Str)) = false := by decide) (he : starEach (e :: es) X.env = (false, eval e X.env) :: starEach es X.env := by rfl) (hpl : (backTo pos (starEach es X.env)).any (·.1) = false := by rfl) :
    PE X (.Call (.Name x p) (e :: es) [] pos) (lE X.K (EWx cv W) (xCall g t)) := pe_imp (pe_callS FN hr hg hm hk hb (passAt tk) ha hdb he hpl) fun σ H Q h => call_of h
theorem xn_call {ban : Nat} {md : List Bool} {k : Nat} {f : Addr} {fd : FuncData} {ps : List Str} {g : DF} {x : Str} {p : Pos} {e : Expr} {es : List Expr} {t : XA} (tk : Takes X W) (FN : FnOk X.prog X.w X.K X.mg X.base (L2.CX X.prog X.w) k f fd ps (spP X.K cv true md g)) (hr : Room k X.A) (hg : Gl X x) (hm : X.mg x = some (.ref f)) (hk : PySem.W.keepIn X.K (.ref f) = true) (hb : Binds X.K fd ps [])
    (ha : PA X (e :: es) (lM X.K (EWx cv W) ban md t)) (hdb : (x == ("__debug__" : Str)) = false := by decide) (he : starEach (e :: es) X.env = (false, eval e X.env) :: starEach es X.env := by rfl) (hpl : (backTo pos (starEach es X.env)).any (·.1) = false := by rfl) :
    PE X (.Call (.Name x p) (e :: es) [] pos) (lN X.K (EWx cv W) (xCall g t)) := pe_imp (pe_callS FN hr hg hm hk hb (passAt tk) ha hdb he hpl) fun σ H Q h => callN_of h
/-- f(x, ..), f changes the object of x -/
def ownD (i : Nat) (ρ : Rho) : Option D := match ρ[i]? with
  | some (.own d) => some d
  | _ => none
theorem ownD_of {i : Nat} {ρ : Rho} {d : D} (h : ownD i ρ = some d) : ρ[i]? = some (.own d) := by
  unfold ownD at h
  split at h
  · rename_i e
    cases h
    exact e
  · cases h
def FR.resB (r : FR) (i : Nat) (ρ : Rho) : Res D := match r with
  | .ok d [p] => .ok d (ρ.set i (.own p))
  | .exc c [p] => .exc c (ρ.set i (.own p))
  | _ => .bad
def xCallB (g : DF) (i : Nat) (t : XA) : XV := fun ρ => match ownD i ρ with
  | none => .bad
  | some _ => (t ρ).bind fun ds ρ1 => match ownD i ρ1 with
    | none => .bad
    | some d0 => (g (d0 :: ds)).resB i ρ1
/-- behind such a call -/
theorem go_bor {K : PySem.W.Frag} {F H F' H' : Hp} {ρ : Rho} {σ : L2.St} {i : Nat} {b : Addr} {o' : HO} {d0 p' : D} (r : Rel K F H ρ σ) (hi : ρ[i]? = some (.own d0)) (hs : σ[i]? = some (some (.ref b))) (g : GrB b F H F' H') (hf : F' b = none) (hh : H' b = some o') (ro : Ro K F' b o' p') :
    Go K ρ σ F H (ρ.set i (.own p')) σ F' H' where
  rel := by
    refine ⟨g.sub, by rw [List.length_set]; exact r.len, fun j s v g1 g2 => ?_, fun j k d1 d2 q g1 g2 g3 g4 => ?_, fun j d1 q g1 g2 g3 => ?_⟩
    rotate_right
    · rcases get_set g1 with ⟨_, z⟩ | ⟨hj, g1⟩
      · cases z
      · refine r.rdis j d1 q g1 g2 ?_
        obtain ⟨k, e, k1, k2⟩ := g3
        rcases get_set k1 with ⟨ek, _⟩ | ⟨_, k1⟩
        · subst ek; exact ⟨_, d0, hi, k2⟩
        · exact ⟨k, e, k1, k2⟩
    · rcases get_set g1 with ⟨e, rfl⟩ | ⟨hj, g1⟩
      · subst e
        rw [hs] at g2
        cases g2
        exact .own hf hh ro
      · have z := r.at' j s v g1 g2
        cases z with
        | emp => exact .emp
        | adr => exact .adr
        | val rp => exact .val (rp.mono g.ex)
        | @own p o d z1 z2 z3 =>
          have hne : p ≠ b := by
            rintro rfl
            exact hj (r.dis i j _ _ _ hi g1 hs g2)
          obtain ⟨k1, k2⟩ := g.keep p o hne z2
          exact .own (k2 z3.nt z1) k1 (z3.mono g.ex)
        | rd ra =>
          refine .rd (ra.step g.ex fun p u hn eq e1 e2 => ?_)
          subst eq
          have hne : p ≠ b := by
            rintro rfl
            exact r.rdis j _ _ g1 g2 ⟨i, d0, hi, hs⟩
          obtain ⟨k1, k2⟩ := g.keep p u hne e1
          exact ⟨k1, k2 hn e2⟩
    · have own_of : ∀ (m : Nat) (e : D), (ρ.set i (Slot.own p'))[m]? = some (Slot.own e) → ∃ e' : D, ρ[m]? = some (Slot.own e') := fun m e h => by
        rcases get_set h with ⟨e1, _⟩ | ⟨_, h⟩
        · subst e1; exact ⟨_, hi⟩
        · exact ⟨_, h⟩
      obtain ⟨e1, q1⟩ := own_of _ _ g1
      obtain ⟨e2, q2⟩ := own_of _ _ g2
      exact r.dis j k e1 e2 q q1 q2 g3 g4
  ex := g.ex
  keep := fun a u g1 g2 g3 => by
    obtain ⟨k1, k2⟩ := g.keep a u (by
      rintro rfl
      exact g3 ⟨i, d0, hi, hs⟩) g1
    exact ⟨k1, fun n => k2 n g2⟩
  own := fun q h => by
    obtain ⟨j, e, q1, q2⟩ := h
    rcases get_set q1 with ⟨e1, _⟩ | ⟨_, q1⟩
    · subst e1
      exact .inl ⟨_, d0, hi, q2⟩
    · exact .inl ⟨j, e, q1, q2⟩
  low := rfl
  lowO := fun d h => by
    by_cases h0 : i = 0
    · subst h0
      exact ⟨p', by rw [List.getElem?_set_self (by cases Nat.lt_or_ge 0 ρ.length with | inl z => exact z | inr z => rw [List.getElem?_eq_none z] at h; cases h)]⟩
    · exact ⟨d, by rw [List.getElem?_set_ne h0]; exact h⟩
  rdb := fun j e h => by
    rcases get_set h with ⟨_, q⟩ | ⟨_, h⟩
    · cases q
    · exact ⟨h, rfl⟩
theorem callB_of {md : List Bool} {fr : Bool} {g : DF} {i : Nat} {t : XA} {σ : L2.St} {H : Hp} {Q : VK}
    (h : ∃ F ρ, Rel X.K F H ρ σ ∧ Pend X.K (EWx cv W) (xCallB g i t) ρ σ F H fun d ρ' F' H' => (fr = false → ∀ v, Rp X.K F' v d → Q v H') ∧ (fr = true → ∀ p o, F' p = none → H' p = some o → Ro X.K F' p o d → ¬ Own ρ' σ p → (Own ρ σ p ∨ H p = none) → Q (.ref p) H')) :
    tCallS (spB X.K cv fr md g) (WE W) (tCons (tVar i) (lM X.K (EWx cv W) i md t)) σ H Q := by
  obtain ⟨F, ρ, r, p⟩ := h
  unfold xCallB at p
  cases e0 : ownD i ρ with
  | none => unfold Pend at p; simp only [e0] at p
  | some d00 =>
    obtain ⟨b, o, h1, h2, h3, h4⟩ := r.own (ownD_of e0)
    have p' : Pend X.K (EWx cv W) (fun ρ => (t ρ).bind fun ds ρ1 => match ownD i ρ1 with
      | none => .bad
      | some d0 => (g (d0 :: ds)).resB i ρ1) ρ σ F H fun d ρ' F' H' => (fr = false → ∀ v, Rp X.K F' v d → Q v H') ∧ (fr = true → ∀ p o, F' p = none → H' p = some o → Ro X.K F' p o d → ¬ Own ρ' σ p → (Own ρ σ p ∨ H p = none) → Q (.ref p) H') := by
      unfold Pend at p ⊢
      simp only [e0] at p
      exact p
    refine ⟨.ref b, h1, F, ρ, r, (Pend.bind r p').mono fun ds ρ1 F1 H1 g1 q vs ra => ?_⟩
    unfold Pend at q
    cases e1 : ownD i ρ1 with
    | none => simp only [e1] at q
    | some d0 =>
      simp only [e1] at q
      obtain ⟨b1, o1, k1, k2, k3, k4⟩ := g1.rel.own (ownD_of e1)
      rw [h1] at k1
      cases k1
      refine ⟨F1, b, o1, d0, vs, ds, rfl, g1.rel.ex, k2, k3, k4, ra.ralB g1.rel (ownD_of e1) h1 k2, ?_⟩
      unfold FR.resB at q
      split <;> rename_i e2 <;> simp only [e2] at q
      · intro F2 H2 o2 gr z1 z2 z3
        have g2 := go_bor g1.rel (ownD_of e1) h1 gr z1 z2 z3
        obtain ⟨m1, m2⟩ := q F2 H2 g2
        refine ⟨m1, fun ef p o3 hp y1 y2 y3 => m2 ef p o3 y1 y2 y3 (fun z => ?_) (own_back r g1 (.inr hp))⟩
        rcases g2.own p z with z | z
        · exact not_own_new g1.rel hp z
        · obtain ⟨j, dj, zz1, zz2⟩ := id ‹Own _ _ p›
          rcases get_set zz1 with ⟨ej, _⟩ | ⟨_, zz1⟩
          · subst ej
            rw [h1] at zz2
            cases zz2
            rw [hp] at k3; cases k3
          · exact not_own_new g1.rel hp ⟨j, dj, zz1, zz2⟩
      · exact fun F2 H2 o2 gr z1 z2 z3 => q F2 H2 (go_bor g1.rel (ownD_of e1) h1 gr z1 z2 z3)
theorem lE_B {md : List Bool} {g : DF} {i : Nat} {t : XA} {σ : L2.St} {H : Hp} {Q : VK} (h : lE X.K (EWx cv W) (xCallB g i t) σ H Q) : tCallS (spB X.K cv false md g) (WE W) (tCons (tVar i) (lM X.K (EWx cv W) i md t)) σ H Q := by
  obtain ⟨F, ρ, r, p⟩ := h
  exact callB_of ⟨F, ρ, r, p.mono fun d ρ' F' H' g q => ⟨fun _ => q, fun z => by cases z⟩⟩
theorem xe_callBor {md : List Bool} {k : Nat} {f : Addr} {fd : FuncData} {ps : List Str} {g : DF} {x y : Str} {p yp : Pos} {es : List Expr} {i : Nat} {t : XA} (tk : Takes X W) (FN : FnOk X.prog X.w X.K X.mg X.base (L2.CX X.prog X.w) k f fd ps (spB X.K cv false md g)) (hr : Room k X.A) (hg : Gl X x) (hm : X.mg x = some (.ref f)) (hk : PySem.W.keepIn X.K (.ref f) = true) (hb : Binds X.K fd ps [])
    (hy : PE X (.Name y yp) (tVar i)) (ha : PA X es (lM X.K (EWx cv W) i md t)) (hdb : (x == ("__debug__" : Str)) = false := by decide) (he : starEach (.Name y yp :: es) X.env = (false, eval (.Name y yp) X.env) :: starEach es X.env := by rfl) (hpl : (backTo pos (starEach es X.env)).any (·.1) = false := by rfl) :
    PE X (.Call (.Name x p) (.Name y yp :: es) [] pos) (lE X.K (EWx cv W) (xCallB g i t)) := pe_imp (pe_callS FN hr hg hm hk hb (passAt tk) (pa_cons hy ha he) hdb he hpl) fun σ H Q h => lE_B h
end
end G


namespace G
open PySem PySem.Spec PyProof.Rows L2

def d2I (C : Int → Int → Prop) [∀ i j, Decidable (C i j)] (g : Int → Int → D) : D → D → Option D
  | .int i, .int j => if C i j then some (g i j) else none
  | _, _ => none
def d2I0 (g : Int → Int → D) : D → D → Option D
  | .int i, .int j => some (g i j)
  | _, _ => none
theorem d2I_of {C : Int → Int → Prop} [∀ i j, Decidable (C i j)] {g : Int → Int → D} {x y d : D} (h : d2I C g x y = some d) : ∃ i j, x = .int i ∧ y = .int j ∧ C i j ∧ d = g i j := by
  unfold d2I at h
  split at h
  · split at h
    · cases h; exact ⟨_, _, rfl, rfl, by assumption, rfl⟩
    · cases h
  · cases h
theorem d2I0_of {g : Int → Int → D} {x y d : D} (h : d2I0 g x y = some d) : ∃ i j, x = .int i ∧ y = .int j ∧ d = g i j := by
  unfold d2I0 at h
  split at h
  · cases h; exact ⟨_, _, rfl, rfl, rfl⟩
  · cases h
theorem imp_I {K : PySem.W.Frag} {C : Int → Int → Prop} [∀ i j, Decidable (C i j)] {g : Int → Int → D} {gv : Int → Int → V} (hg : ∀ F i j, Rp K F (gv i j) (g i j)) : Imp2 K (d2I C g) (rI C gv) := fun F H v w x y d Q ex rv rw e o => by
  obtain ⟨i, j, rfl, rfl, hc, rfl⟩ := d2I_of e
  cases rv; cases rw
  exact ⟨i, j, rfl, rfl, hc, o.here ex (hg F i j)⟩
theorem imp_I0 {K : PySem.W.Frag} {g : Int → Int → D} {gv : Int → Int → V} (hg : ∀ F i j, Rp K F (gv i j) (g i j)) : Imp2 K (d2I0 g) (rI0 gv) := fun F H v w x y d Q ex rv rw e o => by
  obtain ⟨i, j, rfl, rfl, rfl⟩ := d2I0_of e
  cases rv; cases rw
  exact ⟨i, j, rfl, rfl, o.here ex (hg F i j)⟩
def dAddS : D → D → Option D
  | .str a, .str b => if a.length + b.length ≤ sizeLine then some (.str (a ++ b)) else none
  | _, _ => none
def dAddT : D → D → Option D
  | .tup a, .tup b => if a ≠ [] ∧ a.length + b.length ≤ sizeLine then some (.tup (a ++ b)) else none
  | _, _ => none
def dAddL : D → D → Option D
  | .lst a, .lst b => if a.length + b.length ≤ sizeLine then some (.lst (a ++ b)) else none
  | _, _ => none
instance (a : List D) : Decidable (a = []) := match a with
  | [] => isTrue rfl
  | _ :: _ => isFalse (fun h => nomatch h)
def dAdd : D → D → Option D
  | .int i, .int j => some (.int (i + j))
  | .str a, .str b => dAddS (.str a) (.str b)
  | .tup a, .tup b => dAddT (.tup a) (.tup b)
  | .lst a, .lst b => dAddL (.lst a) (.lst b)
  | _, _ => none
def rAddAll (K : PySem.W.Frag) : R2 := fun x y H Q => (rI0 fun i j => .int (i + j)) x y H Q ∨ (fun x y H Q => ∃ i j, x = .str i ∧ y = .str j ∧ i.length + j.length ≤ sizeLine ∧ Q (.str (i ++ j)) H) x y H Q ∨ rCatT K x y H Q ∨ rCat x y H Q
theorem op_addAll {X : Cx} : OpR X (binaryOp .Add) (rAddAll X.K) := op_add.or (op_add_str.or (op_catT.or op_cat))
theorem imp_add {K : PySem.W.Frag} : Imp2 K dAdd (rAddAll K) := fun F H v w x y d Q ex rv rw e o => by
  unfold dAdd at e
  split at e
  · cases e; cases rv; cases rw
    exact .inl ⟨_, _, rfl, rfl, o.here ex (.int _)⟩
  · unfold dAddS at e
    simp only at e
    split at e
    · cases e; cases rv; cases rw
      exact .inr (.inl ⟨_, _, rfl, rfl, by assumption, o.here ex (.str _)⟩)
    · cases e
  · unfold dAddT at e
    simp only at e
    split at e
    · rename_i a b hc
      cases e
      cases rv with
      | tup hf ra =>
        rename_i p xs
        cases rw with
        | tup hf' rb =>
          rename_i q ys
          refine .inr (.inr (.inl ⟨p, q, xs, ys, rfl, rfl, SqT.of (ex _ _ hf), SqT.of (ex _ _ hf'), ?_, by rw [ra.length, rb.length]; exact hc.2, fun hn => ?_, fun hn r hr => ?_⟩))
          · rintro rfl
            cases ra
            exact hc.1 rfl
          · subst hn
            cases rb
            rw [List.append_nil] at o
            exact o.here ex (.tup hf ra)
          · have g := Gr.new (o := .tup (xs ++ ys)) ex hr
            exact o.new ex hr (.tup upd_same ((ra.append rb).mono g.ex))
    · cases e
  · unfold dAddL at e
    simp only at e
    split at e
    · rename_i a b hc
      cases e
      cases rv with
      | lst hf ra =>
        rename_i p xs
        cases rw with
        | lst hf' rb =>
          rename_i q ys
          refine .inr (.inr (.inr ⟨p, q, xs, ys, rfl, rfl, ex _ _ hf, ex _ _ hf', by rw [ra.length, rb.length]; exact hc, fun r hr => ?_⟩))
          have g := Gr.new (o := .lst (xs ++ ys)) ex hr
          exact o.new ex hr (.lst upd_same ((ra.append rb).mono g.ex))
    · cases e
  · cases e
theorem imp_addL {K : PySem.W.Frag} : Imp2N K dAddL rCat := fun F H v w x y d Q ex rv rw e o => by
  unfold dAddL at e
  split at e
  · split at e
    · rename_i a b hc
      cases e
      cases rv with
      | lst hf ra =>
        rename_i p xs
        cases rw with
        | lst hf' rb =>
          rename_i q ys
          exact ⟨p, q, xs, ys, rfl, rfl, ex _ _ hf, ex _ _ hf', by rw [ra.length, rb.length]; exact hc, fun r hr => o.new ex hr (.lst (ra.append rb))⟩
    · cases e
  · cases e
def dSub := d2I0 fun i j => .int (i - j)
instance (i j : Int) : Decidable (CMulW i j) := by unfold CMulW; infer_instance
instance (i j : Int) : Decidable (CDivW i j) := by unfold CDivW; infer_instance
instance (i j : Int) : Decidable (CPow i j) := by unfold CPow; infer_instance
instance (i j : Int) : Decidable (CMul i j) := by unfold CMul; infer_instance
def CMulA (i j : Int) : Prop := CMul i j ∨ CMulW i j
instance (i j : Int) : Decidable (CMulA i j) := by unfold CMulA; infer_instance
theorem op_mulA {X : Cx} : OpR X (binaryOp .Mult) (rI CMulA fun i j => .int (i * j)) := opI fun _ _ _ _ _ _ _ hc q => mul_int q (hc.elim CMul.ok CMulW.ok)
def dMul := d2I CMulA fun i j => .int (i * j)
def dDiv := d2I CDivW fun i j => .int (i / j)
def dMod := d2I (fun _ j => 0 < j) fun i j => .int (i % j)
def dPow := d2I CPow fun i j => .int (i ^ j.toNat)
def dNeg : D → Option D
  | .int i => some (.int (-i))
  | _ => none
theorem imp_neg {K : PySem.W.Frag} : Imp1 K dNeg (rU fun i => .int (-i)) := fun F H v x d Q ex rv e o => by
  unfold dNeg at e
  split at e
  · cases e; cases rv
    exact ⟨_, rfl, o.here ex (.int _)⟩
  · cases e
def dCmp (p : Int → Int → Bool) := d2I0 fun i j => .bl (p i j)
def tupInts : List D → Option (List Int)
  | [] => some []
  | .int i :: r => (tupInts r).map (i :: ·)
  | _ => none
theorem tupInts_of : ∀ {ds : List D} {ns : List Int}, tupInts ds = some ns → ds = ns.map D.int
  | [], ns, h => by cases h; rfl
  | .int i :: r, ns, h => by
    unfold tupInts at h
    cases q : tupInts r with
    | none => rw [q] at h; cases h
    | some ms => rw [q] at h; cases h; rw [tupInts_of q]; rfl
  | .non :: _, _, h => by cases h
  | .bl _ :: _, _, h => by cases h
  | .str _ :: _, _, h => by cases h
  | .ty _ :: _, _, h => by cases h
  | .tup _ :: _, _, h => by cases h
  | .lst _ :: _, _, h => by cases h
  | .fix _ :: _, _, h => by cases h
  | .dicK _ _ :: _, _, h => by cases h
  | .dicT _ _ :: _, _, h => by cases h
def dLt : D → D → Option D
  | .int i, .int j => some (.bl (decide (i < j)))
  | .tup a, .tup b => match tupInts a, tupInts b with
    | some ns, some ms => some (.bl (HT.lexLt ns ms))
    | _, _ => none
  | _, _ => none
theorem imp_lt {K : PySem.W.Frag} : Imp2 K dLt (fun v w H Q => (rI0 fun i j => .bl (decide (i < j))) v w H Q ∨ rLtT K v w H Q) := fun F H v w x y d Q ex rv rw e o => by
  unfold dLt at e
  split at e
  · cases e; cases rv; cases rw
    exact .inl ⟨_, _, rfl, rfl, o.here ex (.bl _)⟩
  · split at e
    · rename_i ns ms q1 q2
      cases e
      cases rv with
      | tup hf ra =>
        rename_i p xs
        cases rw with
        | tup hf' rb =>
          rename_i q ys
          rw [tupInts_of q1] at ra
          rw [tupInts_of q2] at rb
          rw [ra.ints] at hf
          rw [rb.ints] at hf'
          exact .inr ⟨p, q, ns, ms, rfl, rfl, SqT.of (ex _ _ hf), SqT.of (ex _ _ hf'), o.here ex (.bl _)⟩
    · cases e
  · cases e
theorem op_ltAll {X : Cx} (hu : X.A.units < cLine) : OpR X (compareOp .Lt) (fun v w H Q => (rI0 fun i j => .bl (decide (i < j))) v w H Q ∨ rLtT X.K v w H Q) := op_lt.or (op_ltT hu)
mutual
def toPy : D → Option PyData
  | .non => some .none
  | .bl b => some (.bool b)
  | .int i => some (.int i)
  | .str x => some (.str x)
  | .tup ds => (toPys ds).map .tuple
  | .lst ds => (toPys ds).map .list
  | _ => none
def toPys : List D → Option (List PyData)
  | [] => some []
  | d :: ds => match toPy d, toPys ds with
    | some x, some xs => some (x :: xs)
    | _, _ => none
end
section
variable {K : PySem.W.Frag} {F : Hp}
mutual
theorem rp_dp : ∀ (d : D) (v : V) (x : PyData), Rp K F v d → toPy d = some x → Dp K F v x
  | .non, _, _, h, e => by cases h; simp only [toPy] at e; cases e; exact .non
  | .bl b, _, _, h, e => by cases h; simp only [toPy] at e; cases e; exact .bl b
  | .int i, _, _, h, e => by cases h; simp only [toPy] at e; cases e; exact .int i
  | .str i, _, _, h, e => by cases h; simp only [toPy] at e; cases e; exact .str i
  | .ty _, _, _, _, e => by simp only [toPy] at e; cases e
  | .dicK _ _, _, _, _, e => by simp only [toPy] at e; cases e
  | .dicT _ _, _, _, _, e => by simp only [toPy] at e; cases e
  | .tup ds, _, _, h, e => by
    simp only [toPy] at e
    cases h with
    | tup hf ra =>
      cases q : toPys ds with
      | none => rw [q] at e; cases e
      | some xs => rw [q] at e; cases e; exact .tup (SqT.of hf) (rp_dps ds _ xs ra q)
  | .lst ds, _, _, h, e => by
    simp only [toPy] at e
    cases h with
    | lst hf ra =>
      cases q : toPys ds with
      | none => rw [q] at e; cases e
      | some xs => rw [q] at e; cases e; exact .lst (SqL.of hf) (rp_dps ds _ xs ra q)
  | .fix ds, _, _, h, e => by simp only [toPy] at e; cases e
theorem rp_dps : ∀ (ds : List D) (vs : List V) (xs : List PyData), RpAll K F vs ds → toPys ds = some xs → DpAll K F vs xs
  | [], _, _, h, e => by cases h; simp only [toPys] at e; cases e; exact .nil
  | d :: ds, _, _, h, e => by
    cases h with
    | cons h1 h2 =>
      simp only [toPys] at e
      cases q1 : toPy d with
      | none => rw [q1] at e; cases e
      | some x =>
        cases q2 : toPys ds with
        | none => rw [q1, q2] at e; cases e
        | some xs => rw [q1, q2] at e; cases e; exact .cons (rp_dp d _ x h1 q1) (rp_dps ds _ xs h2 q2)
end
theorem dp_same {H H' : Hp} (e : Same H H') {v : V} {x : PyData} (h : Dp K H v x) : Dp K H' v x := by
  refine Dp.rec (motive_1 := fun v d _ => Dp K H' v d) (motive_2 := fun vs ds _ => DpAll K H' vs ds) ?_ ?_ ?_ ?_ ?_ ?_ ?_ ?_ h
  · exact .non
  · exact fun b => .bl b
  · exact fun i => .int i
  · exact fun x => .str x
  · exact fun h _ r => .lst (e.seq h) r
  · exact fun h _ r => .tup (same_seqT e h) r
  · exact .nil
  · exact fun _ _ r1 r2 => .cons r1 r2
end
/-- a == b -/
def eqD (x y : D) : Option Bool := match toPy x, toPy y with
  | some a, some b => if SeqAt.shaped a = true ∧ SeqAt.shaped b = true then some (PyData.eqv a b) else none
  | _, _ => none
def dEq (x y : D) : Option D := (eqD x y).map .bl
def dNe (x y : D) : Option D := (eqD x y).map fun b => .bl (!b)
theorem eqD_of {x y : D} {c : Bool} (h : eqD x y = some c) : ∃ a b, toPy x = some a ∧ toPy y = some b ∧ SeqAt.shaped a = true ∧ SeqAt.shaped b = true ∧ c = PyData.eqv a b := by
  unfold eqD at h
  split at h
  · rename_i a b e1 e2
    split at h
    · rename_i hc
      cases h
      exact ⟨a, b, e1, e2, hc.1, hc.2, rfl⟩
    · cases h
  · cases h
theorem imp_eq {K : PySem.W.Frag} : Imp2 K dEq (rEqD K) := fun F H v w x y d Q ex rv rw e o => by
  unfold dEq at e
  cases q : eqD x y with
  | none => rw [q] at e; cases e
  | some c =>
    rw [q] at e
    cases e
    obtain ⟨a, b, h1, h2, h3, h4, rfl⟩ := eqD_of q
    exact ⟨a, b, dp_same ex (rp_dp _ _ _ rv h1), dp_same ex (rp_dp _ _ _ rw h2), h3, h4, o.here ex (.bl _)⟩
theorem imp_ne {K : PySem.W.Frag} : Imp2 K dNe (rNeD K) := fun F H v w x y d Q ex rv rw e o => by
  unfold dNe at e
  cases q : eqD x y with
  | none => rw [q] at e; cases e
  | some c =>
    rw [q] at e
    cases e
    obtain ⟨a, b, h1, h2, h3, h4, rfl⟩ := eqD_of q
    exact ⟨a, b, dp_same ex (rp_dp _ _ _ rv h1), dp_same ex (rp_dp _ _ _ rw h2), h3, h4, o.here ex (.bl _)⟩
/-- x in xs, a list, data of any depth -/
def inD (x y : D) : Option Bool := match toPy x, (match y with | .lst ds => toPys ds | _ => none) with
  | some a, some bs => if SeqAt.shaped a = true ∧ SeqAt.shaped (.list bs) = true then some (bs.any fun z => PyData.eqv z a) else none
  | _, _ => none
def dIn (x y : D) : Option D := (inD x y).map .bl
def dNotIn (x y : D) : Option D := (inD x y).map fun b => .bl (!b)
theorem inD_of {K : PySem.W.Frag} {F : Hp} {x y : D} {w : V} {c : Bool} (rw : Rp K F w y) (h : inD x y = some c) : ∃ a bs, toPy x = some a ∧ Dp K F w (.list bs) ∧ SeqAt.shaped a = true ∧ SeqAt.shaped (.list bs) = true ∧ c = bs.any fun z => PyData.eqv z a := by
  unfold inD at h
  cases q1 : toPy x with
  | none => rw [q1] at h; cases h
  | some a =>
    rw [q1] at h
    have fin : ∀ ds bs, toPys ds = some bs → Dp K F w (.list bs) → (if SeqAt.shaped a = true ∧ SeqAt.shaped (.list bs) = true then some (bs.any fun z => PyData.eqv z a) else none) = some c → ∃ a' bs, some a = some a' ∧ Dp K F w (.list bs) ∧ SeqAt.shaped a' = true ∧ SeqAt.shaped (.list bs) = true ∧ c = bs.any fun z => PyData.eqv z a' := fun ds bs _ hd h => by
      split at h
      · rename_i hc
        cases h
        exact ⟨a, bs, rfl, hd, hc.1, hc.2, rfl⟩
      · cases h
    cases y with
    | lst ds =>
      simp only at h
      cases q : toPys ds with
      | none => rw [q] at h; cases h
      | some bs =>
        rw [q] at h
        exact fin ds bs q (rp_dp (.lst ds) w (.list bs) rw (by simp only [toPy]; rw [q]; rfl)) h
    | fix _ => cases h
    | non => cases h
    | bl _ => cases h
    | int _ => cases h
    | str _ => cases h
    | ty _ => cases h
    | tup _ => cases h
    | dicK _ _ => cases h
    | dicT _ _ => cases h
    | dicN _ _ => cases h
    | exn _ => cases h
    | inst _ _ => cases h
    | _ => cases h
theorem imp_in {K : PySem.W.Frag} : Imp2 K dIn (rInD K) := fun F H v w x y d Q ex rv rw e o => by
  unfold dIn at e
  cases q : inD x y with
  | none => rw [q] at e; cases e
  | some c =>
    rw [q] at e
    cases e
    obtain ⟨a, bs, h1, h2, h3, h4, rfl⟩ := inD_of rw q
    exact ⟨a, bs, dp_same ex (rp_dp _ _ _ rv h1), dp_same ex h2, h3, h4, o.here ex (.bl _)⟩
theorem imp_notIn {K : PySem.W.Frag} : Imp2 K dNotIn (rNotInD K) := fun F H v w x y d Q ex rv rw e o => by
  unfold dNotIn at e
  cases q : inD x y with
  | none => rw [q] at e; cases e
  | some c =>
    rw [q] at e
    cases e
    obtain ⟨a, bs, h1, h2, h3, h4, rfl⟩ := inD_of rw q
    exact ⟨a, bs, dp_same ex (rp_dp _ _ _ rv h1), dp_same ex h2, h3, h4, o.here ex (.bl _)⟩
/-- is None -/
def isNon : D → Bool
  | .non => true
  | _ => false
def dIs : D → D → Option D
  | x, .non => some (.bl (isNon x))
  | _, _ => none
def dIsNot : D → D → Option D
  | x, .non => some (.bl (!isNon x))
  | _, _ => none
theorem isNon_of {K : PySem.W.Frag} {F : Hp} {v : V} {x : D} (r : Rp K F v x) : isNon x = decide (v = .non) := by cases r <;> simp [isNon]
theorem imp_is {K : PySem.W.Frag} : Imp2 K dIs (fun x y H Q => y = .non ∧ Q (.bl (decide (x = .non))) H) := fun F H v w x y d Q ex rv rw e o => by
  unfold dIs at e
  split at e
  · cases e; cases rw
    exact ⟨rfl, o.here ex (by rw [isNon_of rv]; exact .bl _)⟩
  · cases e
theorem imp_isNot {K : PySem.W.Frag} : Imp2 K dIsNot (fun x y H Q => y = .non ∧ Q (.bl (!decide (x = .non))) H) := fun F H v w x y d Q ex rv rw e o => by
  unfold dIsNot at e
  split at e
  · cases e; cases rw
    exact ⟨rfl, o.here ex (by rw [isNon_of rv]; exact .bl _)⟩
  · cases e
def dIx : D → D → Option D
  | .lst ds, .int i => atI ds i
  | .fix ds, .int i => atI ds i
  | .tup ds, .int i => atI ds i
  | .str z, .int i => if z.length ≤ sizeLine then (atI z.cps.toList i).map fun c => .str ⟨#[c]⟩ else none
  | _, _ => none
theorem imp_ix {K : PySem.W.Frag} : Imp2 K dIx (rIx K) := fun F H v w x y d Q ex rv rw e o => by
  unfold dIx at e
  split at e
  · cases rw
    cases rv with
    | lst hf ra => obtain ⟨u, hu, ru⟩ := atI_rp ra e; exact .inl ⟨_, _, _, u, rfl, rfl, SqL.of (ex _ _ hf), hu, o.here ex ru⟩
  · cases rw
    cases rv with
    | fix hf ra => obtain ⟨u, hu, ru⟩ := atI_rp ra e; exact .inl ⟨_, _, _, u, rfl, rfl, ex.seq hf, hu, o.here ex ru⟩
  · cases rw
    cases rv with
    | tup hf ra => obtain ⟨u, hu, ru⟩ := atI_rp ra e; exact .inr (.inl ⟨_, _, _, u, rfl, rfl, SqT.of (ex _ _ hf), hu, o.here ex ru⟩)
  · split at e
    · rename_i hz
      cases rw; cases rv
      rename_i z i
      cases q : atI z.cps.toList i with
      | none => rw [q] at e; cases e
      | some c => rw [q] at e; cases e; exact .inr (.inr ⟨z, i, c, rfl, rfl, hz, q, o.here ex (.str _)⟩)
    · cases e
  · cases e
def dLen : List D → Option D
  | [.lst ds] => some (.int (ds.length : Nat))
  | [.fix ds] => some (.int (ds.length : Nat))
  | [.tup ds] => some (.int (ds.length : Nat))
  | [.str z] => if z.length ≤ sizeLine then some (.int (z.length : Nat)) else none
  | _ => none
def rLenAll (K : PySem.W.Frag) : List V → Hp → VK → Prop := fun xs H Q => (∃ p ys, xs = [.ref p] ∧ (SqL K H p ys ∨ SqT K H p ys) ∧ Q (.int ys.length) H) ∨ (∃ z, xs = [.str z] ∧ z.length ≤ sizeLine ∧ Q (.int z.length) H)
theorem call_lenAll {X : Cx} : CallR X (.builtin "len") (rLenAll X.K) := call_len_seq.or call_len_str
theorem imp_len {K : PySem.W.Frag} : ImpL K dLen (rLenAll K) := fun F H vs ds d Q ex ra e o => by
  unfold dLen at e
  split at e
  · cases e
    cases ra with
    | cons a b => cases b; cases a with | lst hf r => exact .inl ⟨_, _, rfl, .inl (SqL.of (ex _ _ hf)), o.here ex (by rw [← r.length]; exact .int _)⟩
  · cases e
    cases ra with
    | cons a b => cases b; cases a with | fix hf r => exact .inl ⟨_, _, rfl, .inl (ex.seq hf), o.here ex (by rw [← r.length]; exact .int _)⟩
  · cases e
    cases ra with
    | cons a b => cases b; cases a with | tup hf r => exact .inl ⟨_, _, rfl, .inr (SqT.of (ex _ _ hf)), o.here ex (by rw [← r.length]; exact .int _)⟩
  · split at e
    · cases e
      cases ra with
      | cons a b => cases b; cases a; exact .inr ⟨_, rfl, by assumption, o.here ex (.int _)⟩
    · cases e
  · cases e
def dAbs : List D → Option D
  | [.int i] => some (.int (if i < 0 then -i else i))
  | _ => none
def dMax2 : List D → Option D
  | [.int i, .int j] => some (.int (if j > i then j else i))
  | _ => none
theorem imp_max2 {K : PySem.W.Frag} : ImpL K dMax2 (fun xs H Q => ∃ i j, xs = [.int i, .int j] ∧ Q (.int (if j > i then j else i)) H) := fun F H vs ds d Q ex ra e o => by
  unfold dMax2 at e
  split at e
  · cases e
    cases ra with
    | cons a b => cases b with | cons b c => cases c; cases a; cases b; exact ⟨_, _, rfl, o.here ex (.int _)⟩
  · cases e
/-- isinstance(x, T) -/
def tyName : D → Option String
  | .non => some "NoneType"
  | .bl _ => some "bool"
  | .int _ => some "int"
  | .str _ => some "str"
  | .tup _ => some "tuple"
  | .lst _ => some "list"
  | .dicK z _ => if z = true then none else some "dict"
  | .dicT z _ => if z = true then none else some "dict"
  | _ => none
def isTy (a b : String) : Bool := a == b || (a == "bool" && b == "int")
def tyKnown (b : String) : Bool := b == "int" || b == "bool" || b == "str" || b == "list" || b == "tuple" || b == "dict"
def dIsi : List D → Option D
  | [x, .ty n] => if tyKnown n = true then (tyName x).map fun a => .bl (isTy a n) else none
  | _ => none
theorem kit_known : ∀ a ∈ ["NoneType", "bool", "int", "str", "tuple", "list", "dict"], ∀ b ∈ ["int", "bool", "str", "list", "tuple", "dict"], kitB a b = some (isTy a b) := by decide +kernel
theorem tyKnown_mem {b : String} (h : tyKnown b = true) : b ∈ ["int", "bool", "str", "list", "tuple", "dict"] := by
  unfold tyKnown at h
  simp only [Bool.or_eq_true, beq_iff_eq] at h
  simp only [List.mem_cons, List.not_mem_nil, or_false]
  rcases h with ((((h | h) | h) | h) | h) | h <;> simp [h]
theorem tyName_of {K : PySem.W.Frag} {F H : Hp} {v : V} {x : D} {a : String} (ex : Same F H) (r : Rp K F v x) (h : tyName x = some a) : TyX K H v (.type a) ∧ a ∈ ["NoneType", "bool", "int", "str", "tuple", "list", "dict"] := by
  cases r with
  | non => cases h; exact ⟨.base .non, by decide⟩
  | bl _ => cases h; exact ⟨.base (.bl _), by decide⟩
  | int _ => cases h; exact ⟨.base (.int _), by decide⟩
  | str _ => cases h; exact ⟨.base (.str _), by decide⟩
  | ty _ => cases h
  | fix _ _ => cases h
  | tup hf _ => cases h; exact ⟨.base (.tup (ex _ _ hf)), by decide⟩
  | lst hf _ => cases h; exact ⟨.base (.lst (ex _ _ hf)), by decide⟩
  | @dicK z _ _ _ _ hf _ _ =>
    cases z
    · cases h; exact ⟨.base (.dK (ex _ _ hf)), by decide⟩
    · cases h
  | @dicT z _ _ _ _ hf _ _ =>
    cases z
    · cases h; exact ⟨.base (.dT (ex _ _ hf)), by decide⟩
    · cases h
  | dicN _ _ _ _ => cases h
  | exn _ _ => cases h
  | inst _ _ _ _ => cases h
  | _ => cases h
theorem imp_isi {K : PySem.W.Frag} : ImpL K dIsi (rIsi K) := fun F H vs ds d Q ex ra e o => by
  unfold dIsi at e
  split at e
  · rename_i x n
    split at e
    · rename_i hk
      cases q : tyName x with
      | none => rw [q] at e; cases e
      | some a =>
        rw [q] at e
        cases e
        cases ra with
        | cons r1 r2 =>
          cases r2 with
          | cons r2 r3 =>
            cases r3; cases r2
            obtain ⟨t1, t2⟩ := tyName_of ex r1 q
            exact ⟨_, _, _, _, _, rfl, .ty n, t1, kit_ty (kit_known a t2 n (tyKnown_mem hk)), o.here ex (.bl _)⟩
    · cases e
  · cases e
section
variable {X : Cx} {E : EW}
theorem xe_ty {x : Str} {n : String} {pos : Pos} (hg : Gl X x) (hm : X.mg x = none) (hv : bootBuiltins x = some (.type n)) (hn : x ≠ "__name__" := by decide) (hd : (x == ("__debug__" : Str)) = false := by decide) : PE X (.Name x pos) (lE X.K E (xC (.ty n))) :=
  xe_const (pe_bltn (v := .ty n) hg hm hv rfl hn hd) fun _ => .ty n
end
end G


namespace G
open PySem PySem.Spec PyProof.Rows L2

section
variable {X : Cx} {E : EW} {a b : Expr} {pos : Pos} {ta tb : XV}
def dBl (f : D → D → Option D) (x y : D) : Option Bool := match f x y with
  | some (.bl b) => some b
  | _ => none
def xCmpO (f : D → D → Option D) (ta : XV) (i : Nat) : XV := fun ρ => (ta ρ).bind fun x ρ1 => match rdD i ρ1 with
  | some y => match dBl f x y with
    | some b => .ok (.bl b) ρ1
    | none => .bad
  | none => .bad
def xCmpOL (f : D → D → Option D) (i : Nat) (tb : XV) : XV := fun ρ => match rdD i ρ with
  | none => .bad
  | some _ => (tb ρ).bind fun y ρ1 => match rdD i ρ1 with
    | some x => match dBl f x y with
      | some b => .ok (.bl b) ρ1
      | none => .bad
    | none => .bad
def xCallT (g : DF) (tn : XV) (t : XA) : XV := fun ρ => (tn ρ).bind fun d0 ρ1 => (t ρ1).bind fun ds ρ2 => match g (d0 :: ds) with
  | .ok d [_] => .ok d ρ2
  | .exc c [_] => .exc c ρ2
  | _ => .bad
end
section
variable {X : Cx} {cv : String → Value} {pos : Pos} {W : WX}
theorem Pend.okE {K : PySem.W.Frag} {E : EW} {σ : L2.St} {F H : Hp} {ρ ρ' : Rho} {α : Type} {a : α} {t : Rho → Res α} {Q : α → Rho → Hp → Hp → Prop} (e : t ρ = .ok a ρ') (h : ∀ F' H', Go K ρ σ F H ρ' σ F' H' → Q a ρ' F' H') : Pend K E t ρ σ F H Q := by
  unfold Pend
  rw [e]
  exact h
theorem Pend.excE {K : PySem.W.Frag} {E : EW} {σ : L2.St} {F H : Hp} {ρ ρ' : Rho} {α : Type} {c : String} {t : Rho → Res α} {Q : α → Rho → Hp → Hp → Prop} (e : t ρ = .exc c ρ') (h : ∀ F' H', Go K ρ σ F H ρ' σ F' H' → E c σ H') : Pend K E t ρ σ F H Q := by
  unfold Pend
  rw [e]
  exact h
end
section
variable {X : Cx} {E : EW} {pos : Pos}
def iSeq (K : PySem.W.Frag) (tl : TE) : TI := fun σ H R => tl σ H fun x H1 => (∃ a, x = .ref a ∧ (∃ xs, SqL K H1 a xs) ∧ R (Itl K a) H1) ∨ ∃ a, x = .ref a ∧ (∃ xs, SqT K H1 a xs) ∧ R (Itt K a) H1
theorem pi_seq {tg l : Expr} {tl : TE} (hl : PE X l tl) : PI X tg l (iSeq X.K tl) := by
  refine ⟨fun pins s σ H R I h => ?_⟩
  refine thn (hl.run pins s σ H _ I h) fun v s1 ⟨x, H1, I1, r1, q1⟩ => ?_
  rcases q1 with ⟨a, e, ⟨xs, hq⟩, q⟩ | ⟨a, e, ⟨xs, hq⟩, q⟩
  · subst e
    cases r1
    obtain ⟨its, rv, p, hz⟩ := I1.list hq
    refine wpAny_pyIter_list p.isList ?_
    refine ⟨s1.heap.objs.size, [s1.heap.objs.size], _, _, H1, rfl, I1.kept (t' := s1.toks) fun b o e => Heap.get?_push_of_some _ e, turn_list a _, ⟨_, Heap.get?_push_size _ rfl, rfl, rfl⟩, fun b hb => ?_, q⟩
    have e : b = s1.heap.objs.size := by simpa using hb
    subst e
    exact I1.fpOk (Nat.le_refl _) (I1.hok.fresh (Nat.le_refl _))
  · subst e
    cases r1
    obtain ⟨its, rv, p, hz⟩ := I1.tuple hq
    refine wpAny_pyIter_tuple (show s1.heap.IsTuple a its.toArray from p) ?_
    refine ⟨s1.heap.objs.size, [s1.heap.objs.size], _, _, H1, rfl, I1.kept (t' := s1.toks) fun b o e => Heap.get?_push_of_some _ e, turn_tuple a _, ⟨_, Heap.get?_push_size _ rfl, rfl, rfl⟩, fun b hb => ?_, q⟩
    have e : b = s1.heap.objs.size := by simpa using hb
    subst e
    exact I1.fpOk (Nat.le_refl _) (I1.hok.fresh (Nat.le_refl _))
def xIt (t : XV) : XA := fun ρ => (t ρ).bind (lift dItems)
theorem xi_seq {tg e : Expr} {t : XV} (h : PE X e (lE X.K E t)) : PI X tg e (lI X.K E (xIt t)) := pi_imp (pi_seq h) fun σ H R h => by
  obtain ⟨F, ρ, r, p⟩ := h
  refine ⟨F, ρ, r, (Pend.bind r p).mono fun x ρ1 F1 H1 g1 q v rv => ?_⟩
  obtain ⟨d, e, q⟩ := q.lift
  cases rv with
  | lst hf ra => cases e; exact .inl ⟨_, rfl, ⟨_, SqL.of (g1.rel.ex _ _ hf)⟩, q F1 H1 (Go.refl g1.rel) _ (iters_list (fun ρ2 σ2 F2 H2 g => SqL.of (g.rel.ex _ _ (g.ex _ _ hf))) ra)⟩
  | fix hf ra => cases e; exact .inl ⟨_, rfl, ⟨_, g1.rel.ex.seq hf⟩, q F1 H1 (Go.refl g1.rel) _ (iters_list (fun ρ2 σ2 F2 H2 g => g.rel.ex.seq (g.ex.seq hf)) ra)⟩
  | tup hf ra => cases e; exact .inr ⟨_, rfl, ⟨_, SqT.of (g1.rel.ex _ _ hf)⟩, q F1 H1 (Go.refl g1.rel) _ (iters_tup hf ra)⟩
  | non => cases e
  | bl _ => cases e
  | int _ => cases e
  | str _ => cases e
  | ty _ => cases e
  | dicK _ _ _ => cases e
  | dicT _ _ _ => cases e
  | dicN _ _ _ _ => cases e
  | exn _ _ => cases e
  | inst _ _ _ _ => cases e
  | _ => cases e
end
section
variable {K : PySem.W.Frag} {E : EW} {σ σ' : L2.St} {F H F' H' : Hp} {ρ ρ' : Rho} {i : Nat} {d : D}
def unl (i : Nat) (ρ : Rho) : Rho := match ρ[i]? with
  | some (.rd d) => ρ.set i (.own d)
  | _ => ρ
def Res.unl {α : Type} (i : Nat) : Res α → Res α
  | .ok a ρ => .ok a (G.unl i ρ)
  | .exc c ρ => .exc c (G.unl i ρ)
  | .bad => .bad
def Fl.unl (i : Nat) : Fl → Fl
  | .nx ρ => .nx (G.unl i ρ)
  | .ret d ρ => .ret d (G.unl i ρ)
  | .brk ρ => .brk (G.unl i ρ)
  | .cnt ρ => .cnt (G.unl i ρ)
  | .exc c ρ => .exc c (G.unl i ρ)
  | .bad => .bad
def lockV {α : Type} (i : Nat) (t : Rho → Res α) : Rho → Res α := fun ρ => match ownD i ρ with
  | some d => (t (ρ.set i (.rd d))).unl i
  | none => .bad
def lockS (i : Nat) (t : XS) : XS := fun ρ => match ownD i ρ with
  | some d => (t (ρ.set i (.rd d))).unl i
  | none => .bad
end
section
variable {X : Cx} {E : EW} {fr : Bool} {pos : Pos}
/-- walking what slot i lends -/
def xItO (i : Nat) : XA := fun ρ => match ρ[i]? with
  | some (.rd d) => lift dItems d ρ
  | _ => .bad
end
theorem bt_len : bootBuiltins "len" = some (.builtin "len") := by decide +kernel
theorem bt_max : bootBuiltins "max" = some (.builtin "max") := by decide +kernel
theorem bt_isinstance : bootBuiltins "isinstance" = some (.builtin "isinstance") := by decide +kernel
theorem bt_all : bootBuiltins "all" = some (.builtin "all") := by decide +kernel
theorem bt_int : bootBuiltins "int" = some (.type "int") := by decide +kernel
theorem bt_str : bootBuiltins "str" = some (.type "str") := by decide +kernel
theorem hu65 {k : Nat} {A : Around} (r : Room k A) : A.units + 65 < cLine := by have := r.un; omega
theorem law_sp {K : PySem.W.Frag} {cv : String → Value} {g : DF} {H : Hp} {a : Addr} {ns : List Int} {E : XK} (hS : SqL K H a (ns.map V.int)) (h : g [.fix (ns.map D.int)] = .ok (.bl true) []) : spP K cv false [false] g [.ref a] H (fun v _ => v = .bl true) E := by
  refine ⟨H, [.fix (ns.map D.int)], Same.refl H, .val (.fix hS (RpAll.of_ints ns)) .nil, ?_⟩
  rw [h]
  exact ⟨fun _ v F' H' _ rv => by cases rv; rfl, fun z => by cases z⟩
theorem law_cx {P : Program} {w : World} {H : Hp} {s s' : Shared} {e : Value} (h : L2.CX P w [] H s (fun _ _ _ => False) e s') : False := by
  obtain ⟨_, _, _, _, _, _, _, _, _, _, _, _, z⟩ := h
  exact z
end G


namespace G
open PySem PySem.Spec PyProof.Rows L2

theorem atI_0 {α : Type} (a : α) (l : List α) : atI (a :: l) 0 = some a := atI_nat (j := 0) rfl
theorem atI_1 {α : Type} (a b : α) (l : List α) : atI (a :: b :: l) 1 = some b := atI_nat (j := 1) rfl
theorem atI_2 {α : Type} (a b c : α) (l : List α) : atI (a :: b :: c :: l) 2 = some c := atI_nat (j := 2) rfl
theorem atI_3 {α : Type} (a b c d : α) (l : List α) : atI (a :: b :: c :: d :: l) 3 = some d := atI_nat (j := 3) rfl
theorem len_sz1 {n : Nat} (h : n ≤ 100000) : n ≤ sizeLine := by rw [sizeLine_eq]; omega
theorem CMulA.l {i : Int} (j : Int) (h : -(2 ^ 64) < i ∧ i < 2 ^ 64) : CMulA i j := .inl (.inl h)
theorem CMulA.r {j : Int} (i : Int) (h : -(2 ^ 64) < j ∧ j < 2 ^ 64) : CMulA i j := .inl (.inr h)
theorem CMulA.w {i j : Int} (ha : i.natAbs < 2 ^ 10000) (hb : j.natAbs < 2 ^ 10000) : CMulA i j := .inr (wide_mul ha hb (by decide) (by decide) (by decide))
theorem CDivW.s {j : Int} (i : Int) (h : 0 < j ∧ j < 2 ^ 200) : CDivW i j := wide_div (b := 200) h.1 (by omega) (by decide) (by decide)
/-- data by number and pairs -/
theorem shaped_of {d : PyData} (h1 : d.canLay0 = true) (h2 : d.depth ≤ 64) : SeqAt.shaped d = true := by
  unfold SeqAt.shaped
  rw [h1, decide_eq_true h2]
  rfl
class Enc (α : Type) where
  enc : α → D
  py : α → PyData
  dp : Nat
  to : ∀ a, toPy (enc a) = some (py a)
  lay : ∀ a, (py a).canLay0 = true
  dep : ∀ a, (py a).depth ≤ dp
  eqv : ∀ a b, PyData.eqv (py a) (py b) = true ↔ a = b
instance : Enc Int where
  enc := D.int
  py := PyData.int
  dp := 0
  to := fun _ => rfl
  lay := fun _ => rfl
  dep := fun _ => Nat.le_refl _
  eqv := fun a b => by simp [PyData.eqv]
theorem toPys_map {α : Type} [Enc α] : ∀ l : List α, toPys (l.map Enc.enc) = some (l.map Enc.py)
  | [] => rfl
  | a :: l => by simp only [List.map_cons, toPys, Enc.to, toPys_map l]
theorem lay_map {α : Type} [Enc α] : ∀ l : List α, PyData.canLayAll0 (l.map Enc.py) = true
  | [] => rfl
  | a :: l => by simp only [List.map_cons, PyData.canLayAll0, Enc.lay, lay_map l, Bool.and_self]
theorem dep_map {α : Type} [Enc α] : ∀ l : List α, PyData.depthAll (l.map Enc.py) ≤ Enc.dp α
  | [] => Nat.zero_le _
  | a :: l => by
    have h1 := Enc.dep a
    have h2 := dep_map l
    simp only [List.map_cons, PyData.depthAll]
    omega
theorem eqv_map {α : Type} [Enc α] : ∀ l m : List α, PyData.eqvAll (l.map Enc.py) (m.map Enc.py) = true ↔ l = m
  | [], [] => by simp [PyData.eqvAll]
  | [], _ :: _ => by simp [PyData.eqvAll]
  | _ :: _, [] => by simp [PyData.eqvAll]
  | a :: l, b :: m => by simp only [List.map_cons, PyData.eqvAll, Bool.and_eq_true, Enc.eqv, eqv_map l m, List.cons.injEq]
instance {α : Type} [Enc α] : Enc (List α) where
  enc := fun l => .lst (l.map Enc.enc)
  py := fun l => .list (l.map Enc.py)
  dp := Enc.dp α + 1
  to := fun l => by simp only [toPy, toPys_map, Option.map_some]
  lay := fun l => by simp only [PyData.canLay0, lay_map]
  dep := fun l => by
    have := dep_map l
    simp only [PyData.depth]
    omega
  eqv := fun l m => by simp only [PyData.eqv, eqv_map]
instance {α β : Type} [Enc α] [Enc β] : Enc (α × β) where
  enc := fun p => .tup [Enc.enc p.1, Enc.enc p.2]
  py := fun p => .tuple [Enc.py p.1, Enc.py p.2]
  dp := max (Enc.dp α) (Enc.dp β) + 1
  to := fun p => by simp only [toPy, toPys, Enc.to, Option.map_some]
  lay := fun p => by simp only [PyData.canLay0, PyData.canLayAll0, Enc.lay, Bool.and_self]
  dep := fun p => by
    have h1 := Enc.dep p.1
    have h2 := Enc.dep p.2
    simp only [PyData.depth, PyData.depthAll]
    omega
  eqv := fun p q => by
    simp only [PyData.eqv, PyData.eqvAll, Bool.and_eq_true, Enc.eqv, and_true]
    exact Prod.ext_iff.symm
theorem eqD_enc {α : Type} [Enc α] (h : Enc.dp α ≤ 64) (a b : α) [Decidable (a = b)] : eqD (Enc.enc a) (Enc.enc b) = some (decide (a = b)) := by
  unfold eqD
  simp only [Enc.to]
  have s : ∀ x : α, SeqAt.shaped (Enc.py x) = true := fun x => shaped_of (Enc.lay x) (Nat.le_trans (Enc.dep x) h)
  rw [if_pos ⟨s a, s b⟩]
  congr 1
  by_cases e : a = b
  · rw [decide_eq_true e]; exact (Enc.eqv a b).mpr e
  · rw [decide_eq_false e]
    cases q : PyData.eqv (Enc.py a) (Enc.py b) with
    | true => exact absurd ((Enc.eqv a b).mp q) e
    | false => rfl
theorem inD_enc {α : Type} [Enc α] (h : Enc.dp α ≤ 63) (a : α) (l : List α) [Decidable (a ∈ l)] : inD (Enc.enc a) (.lst (l.map Enc.enc)) = some (decide (a ∈ l)) := by
  unfold inD
  simp only [Enc.to, toPys_map]
  rw [if_pos ⟨shaped_of (Enc.lay a) (Nat.le_trans (Enc.dep a) (by omega)), shaped_of (by simp only [PyData.canLay0, lay_map]) (by have := dep_map l; simp only [PyData.depth]; omega)⟩]
  congr 1
  rw [Bool.eq_iff_iff]
  simp only [List.any_eq_true, List.mem_map, decide_eq_true_eq]
  constructor
  · rintro ⟨_, ⟨b, hb, rfl⟩, e⟩
    rw [(Enc.eqv b a).mp e] at hb
    exact hb
  · exact fun hm => ⟨_, ⟨a, hm, rfl⟩, (Enc.eqv a a).mpr rfl⟩
abbrev cell (x y : Int) : D := .tup [.int x, .int y]
abbrev cellP (p : Int × Int) : D := .tup [.int p.1, .int p.2]
theorem eqD_int (a b : Int) : eqD (.int a) (.int b) = some (decide (a = b)) := eqD_enc (α := Int) (by decide) a b
theorem eqD_cell (a b c d : Int) : eqD (.tup [.int a, .int b]) (.tup [.int c, .int d]) = some (decide (a = c ∧ b = d)) := by
  rw [show (D.tup [.int a, .int b]) = Enc.enc (a, b) from rfl, show (D.tup [.int c, .int d]) = Enc.enc (c, d) from rfl, eqD_enc (by decide)]
  congr 1
  simp only [Prod.mk.injEq]
theorem eqD_bl (a b : Bool) : eqD (.bl a) (.bl b) = some (a == b) := by
  unfold eqD
  simp only [toPy]
  rw [if_pos ⟨shaped_of rfl (Nat.zero_le _), shaped_of rfl (Nat.zero_le _)⟩]
  rfl
theorem forRun_inv {g : XG} {body : XS} (I : Nat → Rho → Prop) : ∀ (ds : List D) (k : Nat) (ρ : Rho), I k ρ → (∀ i d ρ, ds[i]? = some d → I (k + i) ρ → ∃ ρ1, g d ρ = some ρ1 ∧ ∃ ρ2, (body ρ1 = .nx ρ2 ∨ body ρ1 = .cnt ρ2) ∧ I (k + i + 1) ρ2) →
    ∃ ρ', forRun g body ds ρ = .nx ρ' ∧ I (k + ds.length) ρ'
  | [], k, ρ, h, _ => ⟨ρ, rfl, h⟩
  | d :: ds, k, ρ, h, hs => by
    obtain ⟨ρ1, e1, ρ2, e2, h2⟩ := hs 0 d ρ rfl h
    obtain ⟨ρ', e3, h3⟩ := forRun_inv I ds (k + 1) ρ2 h2 (fun i d' ρ3 hd hi => by
      have := hs (i + 1) d' ρ3 (by simpa using hd) (by rw [show k + (i + 1) = k + 1 + i by omega]; exact hi)
      rw [show k + (i + 1) + 1 = k + 1 + i + 1 by omega] at this
      exact this)
    refine ⟨ρ', ?_, by rw [List.length_cons, show k + (ds.length + 1) = k + 1 + ds.length by omega]; exact h3⟩
    unfold forRun
    simp only [e1]
    rcases e2 with e2 | e2 <;> simp only [e2] <;> exact e3
theorem rangeD_get {lo : Int} {n i : Nat} {d : D} (h : (rangeD lo n)[i]? = some d) : i < n ∧ d = .int (lo + (i : Nat)) := by
  unfold rangeD at h
  rw [List.getElem?_map] at h
  by_cases hi : i < n
  · rw [List.getElem?_range hi] at h
    cases h
    exact ⟨hi, rfl⟩
  · rw [List.getElem?_eq_none (by rw [List.length_range]; omega)] at h
    cases h
theorem rangeD_len (lo : Int) (n : Nat) : (rangeD lo n).length = n := by unfold rangeD; rw [List.length_map, List.length_range]
/-- a loop over a range, by an invariant -/
theorem for_range_inv {g : XG} {body : XS} {lo : Int} {n : Nat} (I : Nat → Rho → Prop) {ρ : Rho} (h0 : I 0 ρ) (hs : ∀ (i : Nat) ρ, i < n → I i ρ → ∃ ρ1, g (.int (lo + (i : Nat))) ρ = some ρ1 ∧ ∃ ρ2, (body ρ1 = .nx ρ2 ∨ body ρ1 = .cnt ρ2) ∧ I (i + 1) ρ2) : ∃ ρ', forRun g body (rangeD lo n) ρ = .nx ρ' ∧ I n ρ' := by
  obtain ⟨ρ', e, h⟩ := forRun_inv I (rangeD lo n) 0 ρ h0 (fun i d ρ hd hi => by
    obtain ⟨h1, rfl⟩ := rangeD_get hd
    rw [Nat.zero_add] at hi ⊢
    exact hs i ρ h1 hi)
  rw [rangeD_len, Nat.zero_add] at h
  exact ⟨ρ', e, h⟩
section
variable {α β : Type} (ρ ρ1 : Rho) (i : Nat) (ta tb : XV) (t u : XT) (p q : XS) (f : D → D → Option D) (g : D → Option D) (h : List D → Option D)
theorem zaa (a : α) (k : α → Rho → Res β) : (Res.ok a ρ).bind k = k a ρ := rfl
theorem zab (a : α) (k : α → Rho → Fl) : (Res.ok a ρ).fl k = k a ρ := rfl
theorem zac (c : String) (k : α → Rho → Res β) : (Res.exc c ρ).bind k = .exc c ρ := rfl
theorem zad (c : String) (k : α → Rho → Fl) : (Res.exc c ρ : Res α).fl k = .exc c ρ := rfl
theorem zae (a : α) (k : α → Rho → Res β) : (Res.ok a ρ).bindX k = k a ρ := rfl
theorem zaf : (Fl.nx ρ).seq p = p ρ := rfl
theorem zag (d : D) : (Fl.ret d ρ).seq p = .ret d ρ := rfl
theorem zah : (Fl.brk ρ).seq p = .brk ρ := rfl
theorem zai : (Fl.cnt ρ).seq p = .cnt ρ := rfl
theorem zaj (c : String) : (Fl.exc c ρ).seq p = .exc c ρ := rfl
def slotV (o : Option Slot) (ρ : Rho) : Res D := match o with
  | some (.val d) => .ok d ρ
  | _ => .bad
theorem zak : xVar i ρ = slotV ρ[i]? ρ := rfl
theorem zal (d : D) : slotV (some (.val d)) ρ = .ok d ρ := rfl
def slotT (i : Nat) (o : Option Slot) (ρ : Rho) : Res D := match o with
  | some (.own d) => .ok d (ρ.set i .emp)
  | _ => .bad
theorem zam : xTake i ρ = slotT i ρ[i]? ρ := rfl
theorem zan (d : D) : slotT i (some (.own d)) ρ = .ok d (ρ.set i .emp) := rfl
theorem zao (d : D) : xC d ρ = .ok d ρ := rfl
def liftO (o : Option β) (ρ : Rho) : Res β := match o with
  | some b => .ok b ρ
  | none => .bad
theorem zap (f : α → Option β) (a : α) : G.lift f a ρ = liftO (f a) ρ := rfl
theorem zaq (b : β) : liftO (some b) ρ = .ok b ρ := rfl
theorem zar : xOp1 g ta ρ = (ta ρ).bind (G.lift g) := rfl
def op2k (f : D → D → Option D) (tb : XV) : D → Rho → Res D := fun x ρ1 => (tb ρ1).bind (G.lift (f x))
theorem zas : xOp2 f ta tb ρ = (ta ρ).bind (op2k f tb) := rfl
theorem zat (x : D) : op2k f tb x ρ = (tb ρ).bind (G.lift (f x)) := rfl
theorem zau (a : XA) : xOpL h a ρ = (a ρ).bind (G.lift h) := rfl
theorem zav : xNil ρ = .ok [] ρ := rfl
def consk (tr : XA) : D → Rho → Res (List D) := fun x ρ1 => (tr ρ1).bind fun xs ρ2 => .ok (x :: xs) ρ2
def consk2 (x : D) : List D → Rho → Res (List D) := fun xs ρ2 => .ok (x :: xs) ρ2
theorem zaw (tr : XA) : xCons ta tr ρ = (ta ρ).bind (consk tr) := rfl
theorem zax (tr : XA) (x : D) : consk tr x ρ = (tr ρ).bind (consk2 x) := rfl
theorem zay (x : D) (xs : List D) : consk2 x xs ρ = .ok (x :: xs) ρ := rfl
def testk : D → Rho → Res Bool := fun x ρ1 => match x with
  | .bl b => .ok b ρ1
  | _ => .bad
theorem zaz : xTest ta ρ = (ta ρ).bind testk := rfl
theorem zaA (b : Bool) : testk (.bl b) ρ = .ok b ρ := rfl
def andk (u : XT) : Bool → Rho → Res Bool := fun b ρ1 => if b = true then u ρ1 else .ok false ρ1
def ork (u : XT) : Bool → Rho → Res Bool := fun b ρ1 => if b = true then .ok true ρ1 else u ρ1
def notk : Bool → Rho → Res Bool := fun b ρ1 => .ok (!b) ρ1
theorem zaB : xAnd t u ρ = (t ρ).bind (andk u) := rfl
theorem zaC : xOr t u ρ = (t ρ).bind (ork u) := rfl
theorem zaD : xNot t ρ = (t ρ).bind notk := rfl
theorem zaE : andk u true ρ = u ρ := rfl
theorem zaF : andk u false ρ = .ok false ρ := rfl
theorem zaG : ork u true ρ = .ok true ρ := rfl
theorem zaH : ork u false ρ = u ρ := rfl
theorem zaI (b : Bool) : notk b ρ = .ok (!b) ρ := rfl
def andVk (u : XV) : Bool → Rho → Res D := fun b ρ1 => if b = true then u ρ1 else .ok (.bl false) ρ1
def orVk (u : XV) : Bool → Rho → Res D := fun b ρ1 => if b = true then .ok (.bl true) ρ1 else u ρ1
def notVk : Bool → Rho → Res D := fun b ρ1 => .ok (.bl (!b)) ρ1
theorem zaJ : xAndV ta tb ρ = (xTest ta ρ).bind (andVk tb) := rfl
theorem zaK : xOrV ta tb ρ = (xTest ta ρ).bind (orVk tb) := rfl
theorem zaL : xNotV ta ρ = (xTest ta ρ).bind notVk := rfl
theorem zaM : andVk tb true ρ = tb ρ := rfl
theorem zaN : andVk tb false ρ = .ok (.bl false) ρ := rfl
theorem zaO : orVk tb true ρ = .ok (.bl true) ρ := rfl
theorem zaP : orVk tb false ρ = tb ρ := rfl
theorem zaQ (b : Bool) : notVk b ρ = .ok (.bl (!b)) ρ := rfl
def ifVk (a b : XV) : Bool → Rho → Res D := fun c ρ1 => if c = true then a ρ1 else b ρ1
theorem zaR : xIf t ta tb ρ = (t ρ).bind (ifVk ta tb) := rfl
theorem zaS : ifVk ta tb true ρ = ta ρ := rfl
theorem zaT : ifVk ta tb false ρ = tb ρ := rfl
theorem zaU : xNext ρ = .nx ρ := rfl
theorem zaV : xBrk ρ = .brk ρ := rfl
theorem zaW : xCnt ρ = .cnt ρ := rfl
theorem zaX : xSeq p q ρ = (p ρ).seq q := rfl
def dropk : D → Rho → Fl := fun _ ρ1 => .nx ρ1
theorem zaY : xDrop ta ρ = (ta ρ).fl dropk := rfl
theorem zaZ (d : D) : dropk d ρ = .nx ρ := rfl
def retk : D → Rho → Fl := fun d ρ1 => .ret d ρ1
theorem zba : xRet ta ρ = (ta ρ).fl retk := rfl
theorem zbb (d : D) : retk d ρ = .ret d ρ := rfl
def ifk (a b : XS) : Bool → Rho → Fl := fun c ρ1 => if c = true then a ρ1 else b ρ1
theorem zbc : xIfS t p q ρ = (t ρ).fl (ifk p q) := rfl
theorem zbd : ifk p q true ρ = p ρ := rfl
theorem zbe : ifk p q false ρ = q ρ := rfl
def asgO (o : Option Rho) : Fl := match o with
  | some ρ2 => .nx ρ2
  | none => .bad
def asgk (g : XG) : D → Rho → Fl := fun d ρ1 => asgO (g d ρ1)
theorem zbf (g : XG) : xAsg ta g ρ = (ta ρ).fl (asgk g) := rfl
theorem zbg (g : XG) (d : D) : asgk g d ρ = asgO (g d ρ) := rfl
theorem zbh : asgO (some ρ) = .nx ρ := rfl
theorem zbi (d : D) : gSet i d ρ = some (ρ.set i (.val d)) := rfl
theorem zbj (n : Nat) (gs : List D → Rho → Option Rho) (ds : List D) : gsTup n gs (.tup ds) ρ = if ds.length = n then gs ds ρ else none := rfl
theorem zbk (g : XG) (gs : List D → Rho → Option Rho) (d : D) (ds : List D) : gsCons g gs (d :: ds) ρ = (g d ρ).bind (gs ds) := rfl
theorem zbl : gsNil [] ρ = some ρ := rfl
def setOk (i : Nat) : D → Rho → Fl := fun d ρ1 => .nx (ρ1.set i (.own d))
theorem zbm : xSetO i ta ρ = (ta ρ).fl (setOk i) := rfl
theorem zbn (d : D) : setOk i d ρ = .nx (ρ.set i (.own d)) := rfl
def callk (g : DF) : List D → Rho → Res D := fun ds ρ1 => (g ds).res ρ1
theorem zbo (g : DF) (a : XA) : xCall g a ρ = (a ρ).bind (callk g) := rfl
theorem zbp (g : DF) (ds : List D) : callk g ds ρ = (g ds).res ρ := rfl
theorem zbq (d : D) (ps : List D) : (FR.ok d ps).res ρ = .ok d ρ := rfl
theorem zbr (c : String) (ps : List D) : (FR.exc c ps).res ρ = .exc c ρ := rfl
def ownO (o : Option Slot) : Option D := match o with
  | some (.own d) => some d
  | _ => none
theorem zbs : ownD i ρ = ownO ρ[i]? := rfl
theorem zbt (d : D) : ownO (some (.own d)) = some d := rfl
def callB2 (g : DF) (i : Nat) (ds : List D) (ρ1 : Rho) (o : Option D) : Res D := match o with
  | none => .bad
  | some d0 => (g (d0 :: ds)).resB i ρ1
def callB1 (g : DF) (i : Nat) : List D → Rho → Res D := fun ds ρ1 => callB2 g i ds ρ1 (ownD i ρ1)
def callB0 (g : DF) (i : Nat) (a : XA) (ρ : Rho) (o : Option D) : Res D := match o with
  | none => .bad
  | some _ => (a ρ).bind (callB1 g i)
theorem zbu (g : DF) (a : XA) : xCallB g i a ρ = callB0 g i a ρ (ownD i ρ) := by
  unfold xCallB callB0
  cases ownD i ρ <;> rfl
theorem zbv (g : DF) (a : XA) (d : D) : callB0 g i a ρ (some d) = (a ρ).bind (callB1 g i) := rfl
theorem zbw (g : DF) (ds : List D) : callB1 g i ds ρ = callB2 g i ds ρ (ownD i ρ) := rfl
theorem zbx (g : DF) (ds : List D) (d0 : D) : callB2 g i ds ρ (some d0) = (g (d0 :: ds)).resB i ρ := rfl
theorem zby (d e : D) : (FR.ok d [e]).resB i ρ = .ok d (ρ.set i (.own e)) := rfl
def callT2 (g : DF) (d0 : D) : List D → Rho → Res D := fun ds ρ2 => match g (d0 :: ds) with
  | .ok d [_] => .ok d ρ2
  | .exc c [_] => .exc c ρ2
  | _ => .bad
def callT1 (g : DF) (a : XA) : D → Rho → Res D := fun d0 ρ1 => (a ρ1).bind (callT2 g d0)
theorem zbz (g : DF) (a : XA) : xCallT g ta a ρ = (ta ρ).bind (callT1 g a) := rfl
theorem zbA (g : DF) (a : XA) (d0 : D) : callT1 g a d0 ρ = (a ρ).bind (callT2 g d0) := rfl
def listO (o : Option Slot) : Option (List D) := match o with
  | some (.own (.lst ds)) => some ds
  | _ => none
theorem zbB : ownL i ρ = listO ρ[i]? := rfl
theorem zbC (ds : List D) : listO (some (.own (.lst ds))) = some ds := rfl
def withO (f : List D → XS) (ρ : Rho) (o : Option (List D)) : Fl := match o with
  | some ds => f ds ρ
  | none => .bad
theorem zbD (f : List D → XS) : withL i f ρ = withO f ρ (ownL i ρ) := by
  unfold withL withO
  cases ownL i ρ <;> rfl
theorem zbE (f : List D → XS) (ds : List D) : withO f ρ (some ds) = f ds ρ := rfl
def withOV (f : List D → Rho → Res α) (ρ : Rho) (o : Option (List D)) : Res α := match o with
  | some ds => f ds ρ
  | none => .bad
def rdO (o : Option Slot) : Option D := match o with
  | some (.own d) => some d
  | some (.rd d) => some d
  | _ => none
theorem zbF : rdD i ρ = rdO ρ[i]? := rfl
theorem zbG (d : D) : rdO (some (.own d)) = some d := rfl
theorem zbH (d : D) : rdO (some (.rd d)) = some d := rfl
def rdOL (o : Option D) : Option (List D) := match o with
  | some (.lst ds) => some ds
  | _ => none
theorem zbI : rdL i ρ = rdOL (rdD i ρ) := rfl
theorem zbJ (ds : List D) : rdOL (some (.lst ds)) = some ds := rfl
theorem zbK (f : List D → Rho → Res α) : withR i f ρ = withOV f ρ (rdL i ρ) := by
  unfold withR withOV
  cases rdL i ρ <;> rfl
theorem zbL (f : List D → Rho → Res α) (ds : List D) : withOV f ρ (some ds) = f ds ρ := rfl
def appk2 (i : Nat) (d : D) : List D → XS := fun ds ρ1 => if ds.length < sizeLine then .nx (ρ1.set i (.own (.lst (ds ++ [d])))) else .bad
def appk (i : Nat) : D → Rho → Fl := fun d => withL i (appk2 i d)
def appk0 (i : Nat) (te : XV) : List D → XS := fun _ ρ => (te ρ).fl (appk i)
theorem zbM : xAppend i ta ρ = withL i (appk0 i ta) ρ := rfl
theorem zbN (ds : List D) : appk0 i ta ds ρ = (ta ρ).fl (appk i) := rfl
theorem zbO (d : D) : appk i d ρ = withL i (appk2 i d) ρ := rfl
theorem zbP (d : D) (ds : List D) (hz : ds.length < sizeLine) : appk2 i d ds ρ = .nx (ρ.set i (.own (.lst (ds ++ [d])))) := if_pos hz
def mutk (i : Nat) (f : List D → List D) : List D → XS := fun ds ρ => .nx (ρ.set i (.own (.lst (f ds))))
theorem zbQ (f : List D → List D) : xMut i f ρ = withL i (mutk i f) ρ := rfl
theorem zbR (f : List D → List D) (ds : List D) : mutk i f ds ρ = .nx (ρ.set i (.own (.lst (f ds)))) := rfl
def setO2 (i : Nat) (ρ : Rho) (o : Option (List D)) : Fl := match o with
  | some ds' => .nx (ρ.set i (.own (.lst ds')))
  | none => .bad
def setk3 (i : Nat) (d k : D) : List D → XS := fun ds ρ2 => setO2 i ρ2 (dSetAt ds k d)
def setk2 (i : Nat) (d : D) : D → Rho → Fl := fun k => withL i (setk3 i d k)
def setk1 (i : Nat) (tk : XV) (d : D) : List D → XS := fun _ ρ1 => (tk ρ1).fl (setk2 i d)
def setk0 (i : Nat) (tk : XV) : D → Rho → Fl := fun d => withL i (setk1 i tk d)
theorem zbS : xSetIx i ta tb ρ = (tb ρ).fl (setk0 i ta) := rfl
theorem zbT (d : D) : setk0 i ta d ρ = withL i (setk1 i ta d) ρ := rfl
theorem zbU (d : D) (ds : List D) : setk1 i ta d ds ρ = (ta ρ).fl (setk2 i d) := rfl
theorem zbV (d k : D) : setk2 i d k ρ = withL i (setk3 i d k) ρ := rfl
theorem zbW (d k : D) (ds : List D) : setk3 i d k ds ρ = setO2 i ρ (dSetAt ds k d) := rfl
theorem zbX (ds : List D) : setO2 i ρ (some ds) = .nx (ρ.set i (.own (.lst ds))) := rfl
theorem zbY (ds : List D) (j : Int) (d : D) : dSetAt ds (.int j) d = (ixN ds.length j).map fun m => ds.set m d := rfl
def ixk2 (i : Nat) (k : D) : List D → Rho → Res D := fun ds => G.lift (dAt ds) k
def ixk (i : Nat) : D → Rho → Res D := fun k => withR i (ixk2 i k)
def ixk0 (i : Nat) (tk : XV) : List D → Rho → Res D := fun _ ρ => (tk ρ).bind (ixk i)
theorem zbZ : xIxO i ta ρ = withR i (ixk0 i ta) ρ := rfl
theorem zca (ds : List D) : ixk0 i ta ds ρ = (ta ρ).bind (ixk i) := rfl
theorem zcb (k : D) : ixk i k ρ = withR i (ixk2 i k) ρ := rfl
theorem zcc (k : D) (ds : List D) : ixk2 i k ds ρ = liftO (dAt ds k) ρ := rfl
theorem zcd (ds : List D) (j : Int) : dAt ds (.int j) = atI ds j := rfl
def lenk : List D → Rho → Res D := fun ds ρ => .ok (.int (ds.length : Nat)) ρ
theorem zce : xLenO i ρ = withR i lenk ρ := rfl
theorem zcf (ds : List D) : lenk ds ρ = .ok (.int (ds.length : Nat)) ρ := rfl
def blO (o : Option Bool) (ρ : Rho) : Res D := match o with
  | some b => .ok (.bl b) ρ
  | none => .bad
def cmpO2 (f : D → D → Option D) (x : D) (ρ : Rho) (o : Option D) : Res D := match o with
  | some y => blO (dBl f x y) ρ
  | none => .bad
def cmpOk (f : D → D → Option D) (i : Nat) : D → Rho → Res D := fun x ρ1 => cmpO2 f x ρ1 (rdD i ρ1)
theorem zcg : xCmpO f ta i ρ = (ta ρ).bind (cmpOk f i) := rfl
theorem zch (x : D) : cmpOk f i x ρ = cmpO2 f x ρ (rdD i ρ) := rfl
theorem zci (x y : D) : cmpO2 f x ρ (some y) = blO (dBl f x y) ρ := rfl
theorem zcj (b : Bool) : blO (some b) ρ = .ok (.bl b) ρ := rfl
theorem zck (x y : D) : dBl dEq x y = eqD x y := by unfold dBl dEq; cases eqD x y <;> rfl
theorem zcl (x y : D) : dBl dNe x y = (eqD x y).map (!·) := by unfold dBl dNe; cases eqD x y <;> rfl
theorem zcm (x y : D) : dBl dIn x y = inD x y := by unfold dBl dIn; cases inD x y <;> rfl
theorem zcn (x y : D) : dBl dNotIn x y = (inD x y).map (!·) := by unfold dBl dNotIn; cases inD x y <;> rfl
def fork (g : XG) (body : XS) : List D → Rho → Fl := fun ds ρ1 => forRun g body ds ρ1
theorem zco (ti : XA) (g : XG) : xFor ti g p ρ = (ti ρ).fl (fork g p) := rfl
theorem zcp (g : XG) (ds : List D) : fork g p ds ρ = forRun g p ds ρ := rfl
theorem zcq : xIt ta ρ = (ta ρ).bind (G.lift dItems) := rfl
theorem zcr : xItR1 ta ρ = (ta ρ).bind (G.lift dRange1) := rfl
def r2k (tb : XV) : D → Rho → Res (List D) := fun x ρ1 => (tb ρ1).bind (G.lift (dRange2 x))
theorem zcs : xItR2 ta tb ρ = (ta ρ).bind (r2k tb) := rfl
theorem zct (x : D) : r2k tb x ρ = (tb ρ).bind (G.lift (dRange2 x)) := rfl
theorem zcu (n : Int) (h : inR n = true) : dRange1 (.int n) = some (rangeD 0 n.toNat) := if_pos h
theorem zcv (a b : Int) (h : inR a = true) (k : inR b = true) : dRange2 (.int a) (.int b) = some (rangeD a (b - a).toNat) := if_pos ⟨h, k⟩
theorem zcw : inR 0 = true := by decide
theorem zcx : inR 1 = true := by decide
theorem zcy : inR (-1) = true := by decide
theorem zcz : inR 2 = true := by decide
theorem zcA : inR 3 = true := by decide
theorem zcB : inR 4 = true := by decide
theorem zcC : inR 5 = true := by decide
theorem zcD : inR 6 = true := by decide
theorem zcE : inR 7 = true := by decide
theorem zcF : inR 8 = true := by decide
theorem zcG : inR 9 = true := by decide
theorem zcH (ds : List D) : dItems (.lst ds) = some ds := rfl
theorem zcI (ds : List D) : dItems (.tup ds) = some ds := rfl
theorem zcJ (ds : List D) : dItems (.fix ds) = some ds := rfl
/-- one turn of a loop -/
def turnFl (g : XG) (body : XS) (r : List D) (f : Fl) : Fl := match f with
  | .nx ρ2 => forRun g body r ρ2
  | .cnt ρ2 => forRun g body r ρ2
  | .brk ρ2 => .nx ρ2
  | f => f
def turnO (g : XG) (body : XS) (r : List D) (o : Option Rho) : Fl := match o with
  | none => .bad
  | some ρ1 => turnFl g body r (body ρ1)
theorem zcK (g : XG) (d : D) (r : List D) : forRun g p (d :: r) ρ = turnO g p r (g d ρ) := by
  show (match g d ρ with | none => Fl.bad | some ρ1 => match p ρ1 with | .nx ρ2 => forRun g p r ρ2 | .cnt ρ2 => forRun g p r ρ2 | .brk ρ2 => .nx ρ2 | f => f) = _
  unfold turnO turnFl
  cases g d ρ with
  | none => rfl
  | some ρ1 => cases p ρ1 <;> rfl
theorem zcL (g : XG) (r : List D) : turnO g p r (some ρ) = turnFl g p r (p ρ) := rfl
theorem zcM (g : XG) (r : List D) : turnFl g p r (.nx ρ) = forRun g p r ρ := rfl
theorem zcN (g : XG) (r : List D) : turnFl g p r (.cnt ρ) = forRun g p r ρ := rfl
theorem zcO (g : XG) (r : List D) : turnFl g p r (.brk ρ) = .nx ρ := rfl
theorem zcP (g : XG) (r : List D) (d : D) : turnFl g p r (.ret d ρ) = .ret d ρ := rfl
theorem zcQ (g : XG) (r : List D) (c : String) : turnFl g p r (.exc c ρ) = .exc c ρ := rfl
def cmpL2 (f : D → D → Option D) (y : D) (ρ : Rho) (o : Option D) : Res D := match o with
  | some x => blO (dBl f x y) ρ
  | none => .bad
def cmpL1 (f : D → D → Option D) (i : Nat) : D → Rho → Res D := fun y ρ1 => cmpL2 f y ρ1 (rdD i ρ1)
def cmpL0 (f : D → D → Option D) (i : Nat) (tb : XV) (ρ : Rho) (o : Option D) : Res D := match o with
  | none => .bad
  | some _ => (tb ρ).bind (cmpL1 f i)
theorem zcR : xCmpOL f i tb ρ = cmpL0 f i tb ρ (rdD i ρ) := by
  unfold xCmpOL cmpL0
  cases rdD i ρ <;> rfl
theorem zcS (d : D) : cmpL0 f i tb ρ (some d) = (tb ρ).bind (cmpL1 f i) := rfl
theorem zcT (y : D) : cmpL1 f i y ρ = cmpL2 f y ρ (rdD i ρ) := rfl
theorem zcU (x y : D) : cmpL2 f y ρ (some x) = blO (dBl f x y) ρ := rfl
def consR2 (x : D) : List D → Rho → Res (List D) := fun xs ρ2 => if nofx x = true then .ok (x :: xs) ρ2 else .bad
def consR1 (tr : XA) : D → Rho → Res (List D) := fun x ρ1 => (tr ρ1).bind (consR2 x)
theorem zcV (tr : XA) : xConsR ta tr ρ = (ta ρ).bind (consR1 tr) := rfl
theorem zcW (tr : XA) (x : D) : consR1 tr x ρ = (tr ρ).bind (consR2 x) := rfl
theorem zcX (ds xs : List D) : consR2 (.lst ds) xs ρ = .ok (.lst ds :: xs) ρ := rfl
theorem zcY (ds xs : List D) : consR2 (.tup ds) xs ρ = .ok (.tup ds :: xs) ρ := rfl
theorem zcZ (n : Int) (xs : List D) : consR2 (.int n) xs ρ = .ok (.int n :: xs) ρ := rfl
theorem zda (n : Bool) (xs : List D) : consR2 (.bl n) xs ρ = .ok (.bl n :: xs) ρ := rfl
theorem zdb (n : Str) (xs : List D) : consR2 (.str n) xs ρ = .ok (.str n :: xs) ρ := rfl
theorem zdc (xs : List D) : consR2 .non xs ρ = .ok (.non :: xs) ρ := rfl
def consO2 (ds : List D) (ρ1 : Rho) (o : Option D) : Res (List D) := match o with
  | some d => .ok (d :: ds) ρ1
  | none => .bad
def consO1 (j : Nat) : List D → Rho → Res (List D) := fun ds ρ1 => consO2 ds ρ1 (rdD j ρ1)
def consO0 (j : Nat) (tr : XA) (ρ : Rho) (o : Option D) : Res (List D) := match o with
  | none => .bad
  | some _ => (tr ρ).bind (consO1 j)
theorem zdd (tr : XA) : xConsO i tr ρ = consO0 i tr ρ (rdD i ρ) := by
  unfold xConsO consO0
  cases rdD i ρ <;> rfl
theorem zde (tr : XA) (d : D) : consO0 i tr ρ (some d) = (tr ρ).bind (consO1 i) := rfl
theorem zdf (ds : List D) : consO1 i ds ρ = consO2 ds ρ (rdD i ρ) := rfl
theorem zdg (d : D) (ds : List D) : consO2 ds ρ (some d) = .ok (d :: ds) ρ := rfl
def lockO (i : Nat) (t : Rho → Res α) (ρ : Rho) (o : Option D) : Res α := match o with
  | some d => (t (ρ.set i (.rd d))).unl i
  | none => .bad
theorem zdh (t : Rho → Res α) : lockV i t ρ = lockO i t ρ (ownD i ρ) := by
  unfold lockV lockO
  cases ownD i ρ <;> rfl
theorem zdi (t : Rho → Res α) (d : D) : lockO i t ρ (some d) = (t (ρ.set i (.rd d))).unl i := rfl
def lockSO (i : Nat) (t : XS) (ρ : Rho) (o : Option D) : Fl := match o with
  | some d => (t (ρ.set i (.rd d))).unl i
  | none => .bad
theorem zdj : lockS i p ρ = lockSO i p ρ (ownD i ρ) := by
  unfold lockS lockSO
  cases ownD i ρ <;> rfl
theorem zdk (d : D) : lockSO i p ρ (some d) = (p (ρ.set i (.rd d))).unl i := rfl
theorem zdl (a : α) : (Res.ok a ρ).unl i = .ok a (unl i ρ) := rfl
theorem zdm : (Fl.nx ρ).unl i = .nx (unl i ρ) := rfl
theorem zdn (d : D) : (Fl.ret d ρ).unl i = .ret d (unl i ρ) := rfl
theorem zdo : (Fl.brk ρ).unl i = .brk (unl i ρ) := rfl
theorem zdp : (Fl.cnt ρ).unl i = .cnt (unl i ρ) := rfl
theorem zdq (c : String) : (Fl.exc c ρ).unl i = .exc c (unl i ρ) := rfl
def unlO (i : Nat) (ρ : Rho) (o : Option Slot) : Rho := match o with
  | some (.rd d) => ρ.set i (.own d)
  | _ => ρ
theorem zdr : unl i ρ = unlO i ρ ρ[i]? := rfl
theorem zds (d : D) : unlO i ρ (some (.rd d)) = ρ.set i (.own d) := rfl
theorem zdt (d : D) : unlO i ρ (some (.own d)) = ρ := rfl
theorem zdu (d : D) : unlO i ρ (some (.val d)) = ρ := rfl
def itO (o : Option Slot) (ρ : Rho) : Res (List D) := match o with
  | some (.rd d) => lift dItems d ρ
  | _ => .bad
theorem zdv : xItO i ρ = itO ρ[i]? ρ := rfl
theorem zdw (d : D) : itO (some (.rd d)) ρ = liftO (dItems d) ρ := rfl
def lstk : List D → Rho → Res D := fun acc ρ2 => .ok (.lst acc) ρ2
def lcK (g : XG) (tt : XT) (te : XV) (vs : List Nat) : List D → Rho → Res D := fun ds ρ1 => if ds.length ≤ sizeLine ∧ noOwn ρ1 vs = true then (lcRun g tt te vs ds [] ρ1).bind lstk else .bad
theorem zdx (ti : XA) (g : XG) (tt : XT) (te : XV) (vs : List Nat) : xLC ti g tt te vs ρ = (ti ρ).bind (lcK g tt te vs) := rfl
theorem zdy (g : XG) (tt : XT) (te : XV) (vs : List Nat) (ds : List D) (hz : ds.length ≤ sizeLine) (hn : noOwn ρ vs = true) : lcK g tt te vs ds ρ = (lcRun g tt te vs ds [] ρ).bind lstk := if_pos ⟨hz, hn⟩
theorem zdz (acc : List D) : lstk acc ρ = .ok (.lst acc) ρ := rfl
def notOwn (o : Option Slot) : Bool := match o with
  | some (.own _) => false
  | _ => true
theorem zdA : noOwn ρ [] = true := rfl
theorem zdB (v : Nat) (vs : List Nat) : noOwn ρ (v :: vs) = (notOwn ρ[v]? && noOwn ρ vs) := rfl
theorem zdC (d : D) : notOwn (some (.val d)) = true := rfl
theorem zdD (d : D) : notOwn (some (.rd d)) = true := rfl
theorem zdE : notOwn (some .emp) = true := rfl
theorem zdF : wipeR ρ [] = ρ := rfl
theorem zdG (v : Nat) (vs : List Nat) : wipeR ρ (v :: vs) = (wipeR ρ vs).set v .emp := rfl
theorem zdH : backR ρ ρ1 [] = ρ1 := rfl
theorem zdI (v : Nat) (vs : List Nat) : backR ρ ρ1 (v :: vs) = (backR ρ ρ1 vs).set v (ρ.getD v .emp) := rfl
/-- one turn of a comprehension -/
def lcS2 (vs : List Nat) (ρ0 : Rho) : D → Rho → Res (Option D) := fun y ρ3 => .ok (some y) (backR ρ0 ρ3 vs)
def lcS1 (te : XV) (vs : List Nat) (ρ0 : Rho) : Bool → Rho → Res (Option D) := fun b ρ2 => if b = true then (te ρ2).bindX (lcS2 vs ρ0) else .ok none (backR ρ0 ρ2 vs)
def lcS0 (tt : XT) (te : XV) (vs : List Nat) (ρ0 : Rho) : Option Rho → Res (Option D)
  | none => .bad
  | some ρ1 => (tt ρ1).bindX (lcS1 te vs ρ0)
def lcStep (g : XG) (tt : XT) (te : XV) (vs : List Nat) (d : D) : Rho → Res (Option D) := fun ρ => lcS0 tt te vs ρ (g d (wipeR ρ vs))
theorem zdJ (g : XG) (tt : XT) (te : XV) (vs : List Nat) (d : D) : lcStep g tt te vs d ρ = lcS0 tt te vs ρ (g d (wipeR ρ vs)) := rfl
theorem zdK (tt : XT) (te : XV) (vs : List Nat) : lcS0 tt te vs ρ (some ρ1) = (tt ρ1).bindX (lcS1 te vs ρ) := rfl
theorem zdL (te : XV) (vs : List Nat) : lcS1 te vs ρ true ρ1 = (te ρ1).bindX (lcS2 vs ρ) := rfl
theorem zdM (te : XV) (vs : List Nat) : lcS1 te vs ρ false ρ1 = .ok none (backR ρ ρ1 vs) := rfl
theorem zdN (vs : List Nat) (d : D) : lcS2 vs ρ d ρ1 = .ok (some d) (backR ρ ρ1 vs) := rfl
theorem zdO : xYes ρ = .ok true ρ := rfl
def endP (fr : Bool) : Fl → FR
  | .ret d _ => .ok d []
  | .nx _ => if fr = true then .bad else .ok .non []
  | .exc c _ => .exc c []
  | _ => .bad
def runO (n : Nat) (fr : Bool) (body : XS) (o : Option (List Slot)) : FR := match o with
  | some ss => endP fr (body (ss ++ List.replicate (n - ss.length) .emp))
  | none => .bad
theorem zdP (md : List Bool) (n : Nat) (fr : Bool) (ds : List D) : runP md n fr p ds = runO n fr p (ini md ds) := by
  unfold runP runO endP
  cases ini md ds <;> rfl
theorem zdQ (n : Nat) (fr : Bool) (ss : List Slot) : runO n fr p (some ss) = endP fr (p (ss ++ List.replicate (n - ss.length) .emp)) := rfl
theorem zdR (fr : Bool) (d : D) : endP fr (.ret d ρ) = .ok d [] := rfl
theorem zdS : endP false (.nx ρ) = .ok .non [] := rfl
theorem zdT (fr : Bool) (c : String) : endP fr (.exc c ρ) = .exc c [] := rfl
theorem zdU : ini [] [] = some [] := rfl
theorem zdV (m : Bool) (ms : List Bool) (d : D) (ds : List D) : ini (m :: ms) (d :: ds) = (ini ms ds).map (Slot.of m d :: ·) := rfl
theorem of_f (d : D) : Slot.of false d = .val d := rfl
theorem of_t (d : D) : Slot.of true d = .rd d := rfl
def endB (fr : Bool) : Fl → FR
  | .ret d ρ => .ok d (slot0 ρ)
  | .nx ρ => if fr = true then .bad else .ok .non (slot0 ρ)
  | .exc c ρ => .exc c (slot0 ρ)
  | _ => .bad
def runBO (n : Nat) (fr : Bool) (body : XS) (d0 : D) (o : Option (List Slot)) : FR := match o with
  | some ss => endB fr (body (.own d0 :: ss ++ List.replicate (n - (ss.length + 1)) .emp))
  | none => .bad
theorem zdW (md : List Bool) (n : Nat) (fr : Bool) (d0 : D) (ds : List D) : runB md n fr p (d0 :: ds) = runBO n fr p d0 (ini md ds) := by
  show (match ini md ds with | some ss => _ | none => _) = _
  unfold runBO endB
  cases ini md ds <;> rfl
theorem zdX (n : Nat) (fr : Bool) (d0 : D) (ss : List Slot) : runBO n fr p d0 (some ss) = endB fr (p (.own d0 :: ss ++ List.replicate (n - (ss.length + 1)) .emp)) := rfl
theorem zdY (fr : Bool) (d d0 : D) : endB fr (.ret d (.own d0 :: ρ)) = .ok d [d0] := rfl
theorem zdZ (d0 : D) : endB false (.nx (.own d0 :: ρ)) = .ok .non [d0] := rfl
theorem zea (fr : Bool) (c : String) (d0 : D) : endB fr (.exc c (.own d0 :: ρ)) = .exc c [d0] := rfl
theorem zeb (a b : Int) : dAdd (.int a) (.int b) = some (.int (a + b)) := rfl
theorem zec (a b : Int) : dSub (.int a) (.int b) = some (.int (a - b)) := rfl
theorem zed {a b : Int} (hc : CMulA a b) : dMul (.int a) (.int b) = some (.int (a * b)) := if_pos hc
theorem zee {a b : Int} (hc : CDivW a b) : dDiv (.int a) (.int b) = some (.int (a / b)) := if_pos hc
theorem zef {a b : Int} (hc : 0 < b) : dMod (.int a) (.int b) = some (.int (a % b)) := if_pos hc
theorem zeg {a b : Int} (hc : CPow a b) : dPow (.int a) (.int b) = some (.int (a ^ b.toNat)) := if_pos hc
theorem zeh (c : Int → Int → Bool) (a b : Int) : dCmp c (.int a) (.int b) = some (.bl (c a b)) := rfl
theorem zei (a b : Int) : dLt (.int a) (.int b) = some (.bl (decide (a < b))) := rfl
theorem zej (a : Int) : dNeg (.int a) = some (.int (-a)) := rfl
theorem zek (x y : D) : dEq x y = (eqD x y).map .bl := rfl
theorem zel (x y : D) : dNe x y = (eqD x y).map fun b => .bl (!b) := rfl
theorem zem (x y : D) : dIn x y = (inD x y).map .bl := rfl
theorem zen (x y : D) : dNotIn x y = (inD x y).map fun b => .bl (!b) := rfl
theorem zeo (ds : List D) (j : Int) : dIx (.lst ds) (.int j) = atI ds j := rfl
theorem zep (ds : List D) (j : Int) : dIx (.tup ds) (.int j) = atI ds j := rfl
theorem zeq (ds : List D) (j : Int) : dIx (.fix ds) (.int j) = atI ds j := rfl
theorem zer (ds : List D) : dLen [.lst ds] = some (.int (ds.length : Nat)) := rfl
theorem zes (ds : List D) : dLen [.tup ds] = some (.int (ds.length : Nat)) := rfl
theorem zet (ds : List D) : dLen [.fix ds] = some (.int (ds.length : Nat)) := rfl
theorem zeu (a : Int) : dAbs [.int a] = some (.int (if a < 0 then -a else a)) := rfl
theorem dTup_ap {ds : List D} (hc : ds.length ≤ sizeLine) : dTup ds = some (.tup ds) := if_pos hc
theorem dLst_ap {ds : List D} (hc : ds.length ≤ sizeLine) : dLst ds = some (.lst ds) := if_pos hc
theorem zev (a b : D) : dTup [a, b] = some (.tup [a, b]) := dTup_ap (len_sz1 (by show 2 ≤ 100000; decide))
theorem zew (a b c : D) : dTup [a, b, c] = some (.tup [a, b, c]) := dTup_ap (len_sz1 (by show 3 ≤ 100000; decide))
theorem zex (a b c d : D) : dTup [a, b, c, d] = some (.tup [a, b, c, d]) := dTup_ap (len_sz1 (by show 4 ≤ 100000; decide))
theorem zey (a : D) : dTup [a] = some (.tup [a]) := dTup_ap (len_sz1 (by show 1 ≤ 100000; decide))
theorem zez : dTup [] = some (.tup []) := dTup_ap (len_sz1 (by show 0 ≤ 100000; decide))
theorem zeA (a b c d : D) : dLst [a, b, c, d] = some (.lst [a, b, c, d]) := dLst_ap (len_sz1 (by show 4 ≤ 100000; decide))
theorem zeB : dLst [] = some (.lst []) := dLst_ap (len_sz1 (by show 0 ≤ 100000; decide))
theorem zeC (a : D) : dLst [a] = some (.lst [a]) := dLst_ap (len_sz1 (by show 1 ≤ 100000; decide))
theorem zeD (a b : D) : dLst [a, b] = some (.lst [a, b]) := dLst_ap (len_sz1 (by show 2 ≤ 100000; decide))
theorem zeE (a b c : D) : dLst [a, b, c] = some (.lst [a, b, c]) := dLst_ap (len_sz1 (by show 3 ≤ 100000; decide))
end
end G


namespace G
open PySem PySem.Spec PyProof.Rows L2
local macro_rules | `(tactic| simp! [$ls,*] $[$loc:location]?) => `(tactic| simp only [zaa, zab, zac, zad, zae, zaf, zag, zah, zai, zaj, zak, zal, zam, zan, zao, zap, zaq, zar, zas, zat, zau, zav, zaw, zax, zay, zaz, zaA, zaB, zaC, zaD, zaE, zaF, zaG, zaH, zaI, zaJ, zaK, zaL, zaM, zaN, zaO, zaP, zaQ, zaR, zaS, zaT, zaU, zaV, zaW, zaX, zaY, zaZ, zba, zbb, zbc, zbd, zbe, zbf, zbg, zbh, zbi, zbj, zbk, zbl, zbm, zbn, zbo, zbp, zbq, zbr, zbs, zbt, zbu, zbv, zbw, zbx, zby, zbz, zbA, zbB, zbC, zbD, zbE, zbF, zbG, zbH, zbI, zbJ, zbK, zbL, zbM, zbN, zbO, zbP, zbQ, zbR, zbS, zbT, zbU, zbV, zbW, zbX, zbY, zbZ, zca, zcb, zcc, zcd, zce, zcf, zcg, zch, zci, zcj, zck, zcl, zcm, zcn, zco, zcp, zcq, zcr, zcs, zct, zcu, zcv, zcw, zcx, zcy, zcz, zcA, zcB, zcC, zcD, zcE, zcF, zcG, zcH, zcI, zcJ, zcK, zcL, zcM, zcN, zcO, zcP, zcQ, zcR, zcS, zcT, zcU, zcV, zcW, zcX, zcY, zcZ, zda, zdb, zdc, zdd, zde, zdf, zdg, zdh, zdi, zdj, zdk, zdl, zdm, zdn, zdo, zdp, zdq, zdr, zds, zdt, zdu, zdv, zdw, zdx, zdy, zdz, zdA, zdB, zdC, zdD, zdE, zdF, zdG, zdH, zdI, zdJ, zdK, zdL, zdM, zdN, zdO, zdP, zdQ, zdR, zdS, zdT, zdU, zdV, G.of_f, G.of_t, zdW, zdX, zdY, zdZ, zea, zeb, zec, zed, zee, zef, zeg, zeh, zei, zej, zek, zel, zem, zen, zeo, zep, zeq, zer, zes, zet, zeu, zev, zew, zex, zey, zez, zeA, zeB, zeC, zeD, zeE, List.getElem?_cons_zero, List.getElem?_cons_succ, List.set_cons_zero, List.set_cons_succ, G.atI_0, G.atI_1, G.atI_2, G.atI_3, Option.map_some, Option.bind_some, G.eqD_int, G.eqD_cell, G.eqD_bl, List.length_cons, List.length_nil, List.getD_cons_zero, List.getD_cons_succ, Bool.and_true, Bool.and_self, decide_true, decide_false, Bool.not_true, Bool.not_false, List.append_nil, List.nil_append, List.cons_append, if_true, if_false, Bool.false_eq_true, reduceIte, Int.reduceLT, Int.reduceLE, Int.reduceToNat, Int.reducePow, Int.reduceNeg, Int.reduceAdd, Int.reduceSub, Int.reduceMul, Nat.reduceAdd, Int.reduceEq, List.replicate, Nat.reduceSub, and_self, and_true, true_and, $ls,*] $[$loc]?)

/-- a pen from which n numbers at most were drawn -/
def PenOk (n : Nat) (p : D) : Prop := ∃ a b c : Int, p = .lst [.int a, .int b, .int c] ∧ 0 ≤ c ∧ c ≤ n
theorem PenOk.mono {n m : Nat} {p : D} (h : PenOk n p) (e : n ≤ m) : PenOk m p := by
  obtain ⟨a, b, c, h1, h2, h3⟩ := h
  exact ⟨a, b, c, h1, h2, by omega⟩
def bDraw : XS := (xSeq (xSetIx 0 (xC (.int 2)) (xOp2 dAdd (xIxO 0 (xC (.int 2))) (xC (.int 1))))
    (xSeq (xIfS (xTest (xOp2 (dCmp fun i j => decide (j < i)) (xIxO 0 (xC (.int 0))) (xC (.int 0))))
    (xSeq (xSet 2 (xOp2 dMod (xIxO 0 (xC (.int 0))) (xVar 1)))
    (xSeq (xSetIx 0 (xC (.int 0)) (xOp2 dDiv (xIxO 0 (xC (.int 0))) (xVar 1)))
    (xRet (xVar 2))))
    xNext)
    (xSeq (xSet 3 (xOp2 dMod (xOp2 dAdd (xOp2 dAdd (xIxO 0 (xC (.int 1))) (xOp2 dMul (xC (.int 48271)) (xIxO 0 (xC (.int 2))))) (xC (.int 11))) (xC (.int 2147483629))))
    (xSeq (xSet 3 (xOp2 dAdd (xOp2 dMod (xOp2 dMul (xVar 3) (xVar 3)) (xC (.int 2147483587))) (xOp2 dMul (xC (.int 7919)) (xIxO 0 (xC (.int 2))))))
    (xSeq (xSet 3 (xOp2 dMod (xOp2 dMul (xVar 3) (xVar 3)) (xC (.int 2147483629))))
    (xRet (xOp2 dMod (xOp2 dDiv (xVar 3) (xC (.int 64))) (xVar 1))))))))
def fDraw : DF := runB [false] 4 false bDraw
theorem ix3 (n : Int) (h : 0 ≤ n ∧ n < 3) : ixN 3 n = some n.toNat := by
  unfold ixN
  rw [if_pos h.1, if_pos (by omega)]
theorem natAbs_lt {i : Int} {k : Nat} (h : -(2 ^ k) < i ∧ i < 2 ^ k) : i.natAbs < 2 ^ k := by
  have e : ((2 : Int) ^ k) = ((2 ^ k : Nat) : Int) := by rw [Int.natCast_pow]; rfl
  rw [e] at h
  omega
theorem draw_ex {n : Nat} {p : D} (h : PenOk n p) (hn : n < 2 ^ 60) {m : Int} (hm : 0 < m) (hm2 : m < 2 ^ 200) : ∃ r p', fDraw [p, .int m] = .ok (.int r) [p'] ∧ 0 ≤ r ∧ r < m ∧ PenOk (n + 1) p' := by
  obtain ⟨a, b, c, rfl, hc0, hc⟩ := h
  have hd : CDivW a m := CDivW.s a ⟨hm, hm2⟩
  unfold fDraw bDraw
  have i2 : ixN 3 2 = some 2 := ix3 2 ⟨by decide, by decide⟩
  have i0 : ixN 3 0 = some 0 := ix3 0 ⟨by decide, by decide⟩
  by_cases ha : 0 < a
  · simp! [i2, i0, hm, hd, ha]
    exact ⟨_, _, rfl, Int.emod_nonneg _ (by omega), Int.emod_lt_of_pos _ hm, ⟨_, _, _, rfl, by omega, by omega⟩⟩
  · have m1 : CMulA 48271 (c + 1) := CMulA.l _ ⟨by decide, by decide⟩
    have m2 : CMulA 7919 (c + 1) := CMulA.l _ ⟨by decide, by decide⟩
    have d1 : ∀ x : Int, CDivW x 64 := fun x => CDivW.s x ⟨by decide, by decide⟩
    generalize hx : (b + 48271 * (c + 1) + 11) % 2147483629 = x at *
    have hx0 : 0 ≤ x := by rw [← hx]; exact Int.emod_nonneg _ (by decide)
    have hx1 : x < 2147483629 := by rw [← hx]; exact Int.emod_lt_of_pos _ (by decide)
    have m3 : CMulA x x := CMulA.l _ ⟨by omega, by omega⟩
    generalize hy : x * x % 2147483587 + 7919 * (c + 1) = y at *
    have hy0 : 0 ≤ x * x % 2147483587 := Int.emod_nonneg _ (by decide)
    have hy1 : x * x % 2147483587 < 2147483587 := Int.emod_lt_of_pos _ (by decide)
    have m4 : CMulA y y := by
      have q : y.natAbs < 2 ^ 100 := natAbs_lt (k := 100) ⟨by omega, by omega⟩
      exact .inr (wide_mul q q (by decide) (by decide) (by decide))
    simp! [i2, i0, hm, d1, ha, slot0, m1, m2, hx, m3, hy, m4]
    exact ⟨_, _, rfl, Int.emod_nonneg _ (by omega), Int.emod_lt_of_pos _ hm, ⟨_, _, _, rfl, by omega, by omega⟩⟩
def bPen : XS := (xSeq (xSet 2 (xOp2 dAdd (xOp2 dMul (xC (.int 7919)) (xVar 1)) (xC (.int 5))))
    (xSeq (xIfS (xTest (xOp2 dLt (xVar 1) (xOpL dLen (xCons (xVar 0) xNil))))
    (xSet 2 (xOp2 dIx (xVar 0) (xVar 1)))
    (xIfS (xTest (xOp2 (dCmp fun i j => decide (j < i)) (xOpL dLen (xCons (xVar 0) xNil)) (xC (.int 0))))
    (xSet 2 (xOp2 dAdd (xOp2 dMod (xOp2 dIx (xVar 0) (xOp2 dMod (xVar 1) (xOpL dLen (xCons (xVar 0) xNil)))) (xC (.int 2147483629))) (xOp2 dMul (xC (.int 48271)) (xVar 1))))
    xNext))
    (xSeq (xIfS (xTest (xOp2 (dCmp fun i j => decide (j ≤ i)) (xVar 2) (xOp2 dPow (xC (.int 10)) (xC (.int 18)))))
    (xRet (xOpL dLst (xCons (xOp2 dSub (xVar 2) (xOp2 dPow (xC (.int 10)) (xC (.int 18)))) (xCons (xOp2 dMod (xVar 2) (xC (.int 2147483587))) (xCons (xC (.int 0)) xNil)))))
    xNext)
    (xRet (xOpL dLst (xCons (xC (.int 0)) (xCons (xOp2 dMod (xVar 2) (xC (.int 2147483587))) (xCons (xC (.int 0)) xNil))))))))
def fPen : DF := runP [false, false] 3 true bPen
theorem atI_get_int {ns : List Int} {j : Int} (h0 : 0 ≤ j) (h1 : j < ns.length) : ∃ v : Int, atI (ns.map D.int) j = some (.int v) := by
  obtain ⟨k, rfl⟩ := Int.eq_ofNat_of_zero_le h0
  have hk : k < ns.length := by omega
  refine ⟨ns[k], atI_nat ?_⟩
  rw [List.getElem?_map, List.getElem?_eq_getElem hk]
  rfl
theorem cpow10 {j : Int} (h : 0 ≤ j ∧ j ≤ 1000) : CPow 10 j := ⟨h.1, by omega, by decide⟩
theorem pen_ex (ns : List Int) (k : Nat) : ∃ p, fPen [.fix (ns.map D.int), .int (k : Nat)] = .ok p [] ∧ PenOk 0 p := by
  unfold fPen bPen
  have m0 : CMulA 7919 (k : Int) := CMulA.l _ ⟨by decide, by decide⟩
  have m1 : CMulA 48271 (k : Int) := CMulA.l _ ⟨by decide, by decide⟩
  have c1 : CPow 10 18 := cpow10 ⟨by decide, by decide⟩
  have fin : ∀ x : Int, ∃ p, endP true ((xSeq (xIfS (xTest (xOp2 (dCmp fun i j => decide (j ≤ i)) (xVar 2) (xOp2 dPow (xC (.int 10)) (xC (.int 18)))))
    (xRet (xOpL dLst (xCons (xOp2 dSub (xVar 2) (xOp2 dPow (xC (.int 10)) (xC (.int 18)))) (xCons (xOp2 dMod (xVar 2) (xC (.int 2147483587))) (xCons (xC (.int 0)) xNil)))))
    xNext)
    (xRet (xOpL dLst (xCons (xC (.int 0)) (xCons (xOp2 dMod (xVar 2) (xC (.int 2147483587))) (xCons (xC (.int 0)) xNil)))))) [.val (.fix (ns.map D.int)), .val (.int (k : Nat)), .val (.int x)]) = .ok p [] ∧ PenOk 0 p := fun x => by
    by_cases hx : (10 : Int) ^ 18 ≤ x
    · have hx' : (1000000000000000000 : Int) ≤ x := by simpa using hx
      simp! [c1, hx']
      exact ⟨_, rfl, ⟨_, _, _, rfl, by omega, by omega⟩⟩
    · have hx' : ¬ (1000000000000000000 : Int) ≤ x := by simpa using hx
      simp! [c1, hx']
      exact ⟨_, rfl, ⟨_, _, _, rfl, by omega, by omega⟩⟩
  have hl : (ns.map D.int).length = ns.length := List.length_map _
  by_cases h1 : (k : Int) < (ns.length : Int)
  · obtain ⟨v, hv⟩ := atI_get_int (ns := ns) (j := k) (by omega) h1
    simp! [m0, hl, h1, hv]
    exact fin v
  · by_cases h2 : (0 : Int) < (ns.length : Int)
    · obtain ⟨v, hv⟩ := atI_get_int (ns := ns) (j := (k : Int) % (ns.length : Int)) (Int.emod_nonneg _ (by omega)) (Int.emod_lt_of_pos _ h2)
      simp! [m0, m1, hl, h1, h2, hv]
      exact fin _
    · simp! [m0, hl, h1, h2]
      exact fin _
end G


namespace G
open PySem PySem.Spec PyProof.Rows L2

section
variable {X : Cx} {E : EW} {pos : Pos}
end
section
variable {X : Cx} {E : EW} {a b : Expr} {pos : Pos} {ta tb : XV}
end
def insB {α : Type} (le : α → α → Bool) (a : α) : List α → List α
  | [] => [a]
  | b :: l => if le a b = true then a :: b :: l else b :: insB le a l
def isortB {α : Type} (le : α → α → Bool) : List α → List α
  | [] => []
  | a :: l => insB le a (isortB le l)
theorem insB_at {α : Type} {le : α → α → Bool} {a : α} : ∀ {l m : List α}, (∀ b ∈ l, le a b = false) → (∀ b ∈ m, le a b = true) → insB le a (l ++ m) = l ++ a :: m
  | [], [], _, _ => rfl
  | [], b :: m, _, h => by
    show (if le a b = true then a :: b :: m else _) = _
    rw [if_pos (h b (List.mem_cons_self ..))]
    rfl
  | b :: l, m, h1, h2 => by
    show (if le a b = true then _ else b :: insB le a (l ++ m)) = _
    rw [if_neg (by rw [h1 b (List.mem_cons_self ..)]; decide), insB_at (fun c hc => h1 c (List.mem_cons_of_mem _ hc)) h2]
    rfl
theorem isortB_eq {α : Type} {le : α → α → Bool} (h : PySem.W.TotalLe le) : ∀ l : List α, l.mergeSort le = isortB le l
  | [] => List.mergeSort_nil
  | a :: l => by
    obtain ⟨l₁, l₂, e1, e2, e3⟩ := List.mergeSort_cons (le := le) (fun a b c h1 h2 => h.trans a b c h1 h2) (fun a b => Bool.or_eq_true_iff.mpr (h.total a b)) a l
    have pw := PySem.W.sort_pairwise h (a :: l)
    rw [e1] at pw
    rw [e1]
    show _ = insB le a (isortB le l)
    rw [← isortB_eq h l, e2]
    exact (insB_at (fun b hb => by simpa using e3 b hb) fun b hb => (List.pairwise_cons.mp (List.pairwise_append.mp pw).2.1).1 b hb).symm
theorem leD_total {β : Type} (k : β → PyData) : PySem.W.TotalLe (PySem.W.dataLe false k) := PySem.W.sortLe_total _ _ _
def isTupC : PyData → Bool
  | .tuple (_ :: _) => true
  | _ => false
def isOne : PyData → Bool
  | .none => false
  | .tuple _ => false
  | _ => true
theorem dItL_of {x : D} {ds : List D} {K : PySem.W.Frag} {F : Hp} {v : V} (h : dItL x = some ds) (r : Rp K F v x) : ∃ a xs, v = .ref a ∧ SqL K F a xs ∧ RpAll K F xs ds := by
  cases r with
  | lst hf ra => cases h; exact ⟨_, _, rfl, SqL.of hf, ra⟩
  | fix hf ra => cases h; exact ⟨_, _, rfl, hf, ra⟩
  | non => cases h
  | bl _ => cases h
  | int _ => cases h
  | str _ => cases h
  | ty _ => cases h
  | tup _ _ => cases h
  | dicK _ _ _ => cases h
  | dicT _ _ _ => cases h
  | dicN _ _ _ _ => cases h
  | exn _ _ => cases h
  | inst _ _ _ _ => cases h
  | _ => cases h
def dBools : List D → Option (List Bool)
  | [] => some []
  | .bl b :: r => (dBools r).map (b :: ·)
  | _ => none
theorem dBools_of : ∀ {ds : List D} {bs : List Bool}, dBools ds = some bs → ds = bs.map D.bl
  | [], bs, h => by cases h; rfl
  | .bl i :: r, bs, h => by
    unfold dBools at h
    cases q : dBools r with
    | none => rw [q] at h; cases h
    | some ms => rw [q] at h; cases h; rw [dBools_of q]; rfl
  | .non :: _, _, h => by cases h
  | .int _ :: _, _, h => by cases h
  | .str _ :: _, _, h => by cases h
  | .ty _ :: _, _, h => by cases h
  | .tup _ :: _, _, h => by cases h
  | .lst _ :: _, _, h => by cases h
  | .fix _ :: _, _, h => by cases h
  | .dicK _ _ :: _, _, h => by cases h
  | .dicT _ _ :: _, _, h => by cases h
theorem dBools_bl (bs : List Bool) : dBools (bs.map D.bl) = some bs := by
  induction bs with
  | nil => rfl
  | cons n ns ih => show (dBools (ns.map D.bl)).map (n :: ·) = _; rw [ih]; rfl
theorem RpAll.bls {K : PySem.W.Frag} {F : Hp} : ∀ {vs : List V} {ns : List Bool}, RpAll K F vs (ns.map D.bl) → vs = ns.map V.bl
  | _, [], .nil => rfl
  | _, _ :: _, .cons (.bl _) b => by rw [RpAll.bls b]; rfl
def dAll : List D → Option D
  | [x] => (dItL x).bind fun ds => (dBools ds).map fun bs => .bl (bs.all id)
  | _ => none
theorem imp_all {K : PySem.W.Frag} : ImpL K dAll (rAll K) := fun F H vs ds d Q ex ra e o => by
  unfold dAll at e
  split at e
  · rename_i x
    cases q1 : dItL x with
    | none => rw [q1] at e; cases e
    | some ys =>
      rw [q1] at e
      simp only [Option.bind_some] at e
      cases q2 : dBools ys with
      | none => rw [q2] at e; cases e
      | some bs =>
        rw [q2] at e
        cases e
        cases ra with
        | cons r1 r2 =>
          cases r2
          obtain ⟨a, ws, rfl, hs, rs⟩ := dItL_of q1 r1
          rw [dBools_of q2] at rs
          rw [rs.bls] at hs
          exact ⟨a, bs, rfl, ex.seq hs, o.here ex (.bl _)⟩
  · cases e
end G


namespace G
open PySem PySem.Spec PyProof.Rows L2

section
variable {α : Type} {le : α → α → Bool}
theorem insB_perm (a : α) : ∀ l : List α, (insB le a l).Perm (a :: l)
  | [] => List.Perm.refl _
  | b :: l => by
    unfold insB
    split
    · exact List.Perm.refl _
    · exact ((insB_perm a l).cons b).trans (List.Perm.swap a b l)
theorem isortB_perm : ∀ l : List α, (isortB le l).Perm l
  | [] => List.Perm.refl _
  | a :: l => (insB_perm a _).trans ((isortB_perm l).cons a)
theorem isortB_pw (h : PySem.W.TotalLe le) (l : List α) : (isortB le l).Pairwise (fun a b => le a b = true) := by
  rw [← isortB_eq h]
  exact PySem.W.sort_pairwise h l
theorem isortB_of_pw (h : PySem.W.TotalLe le) : ∀ {l : List α}, l.Pairwise (fun a b => le a b = true) → isortB le l = l
  | [], _ => rfl
  | a :: l, hp => by
    obtain ⟨h1, h2⟩ := List.pairwise_cons.mp hp
    show insB le a (isortB le l) = a :: l
    rw [isortB_of_pw h h2]
    exact insB_at (l := []) (by simp) h1
theorem pw_unique (anti : ∀ a b, le a b = true → le b a = true → a = b) : ∀ {l m : List α}, l.Perm m → l.Pairwise (fun a b => le a b = true) → m.Pairwise (fun a b => le a b = true) → l = m
  | [], m, p, _, _ => (List.nil_perm.mp p).symm
  | a :: l, [], p, _, _ => by have := p.length_eq; simp at this
  | a :: l, b :: m, p, h1, h2 => by
    obtain ⟨k1, k2⟩ := List.pairwise_cons.mp h1
    obtain ⟨j1, j2⟩ := List.pairwise_cons.mp h2
    have e : a = b := by
      rcases List.mem_cons.mp (p.mem_iff.mp (List.mem_cons_self ..)) with e | e
      · exact e
      · rcases List.mem_cons.mp (p.mem_iff.mpr (List.mem_cons_self ..)) with e2 | e2
        · exact e2.symm
        · exact anti a b (k1 b e2) (j1 a e)
    subst e
    rw [pw_unique anti (List.perm_cons a |>.mp p) k2 j2]
theorem isortB_cong (h : PySem.W.TotalLe le) (anti : ∀ a b, le a b = true → le b a = true → a = b) {l m : List α} (p : l.Perm m) : isortB le l = isortB le m :=
  pw_unique anti ((isortB_perm l).trans (p.trans (isortB_perm m).symm)) (isortB_pw h l) (isortB_pw h m)
end
/-- things that can be sorted -/
class EncS (α : Type) [Enc α] : Prop where
  ali : ∀ a b : α, PySem.W.alike (Enc.py a) (Enc.py b) = true
  srt : (∀ a : α, isTupC (Enc.py a) = true) ∨ ∀ a : α, isOne (Enc.py a) = true
section
variable {α : Type} [Enc α]
def leE (a b : α) : Bool := !PySem.W.dataLt (Enc.py b) (Enc.py a)
theorem leE_total : PySem.W.TotalLe (leE (α := α)) := leD_total (fun a : α => Enc.py a)
def sortE (l : List α) : List α := isortB leE l
theorem sortE_perm (l : List α) : (sortE l).Perm l := isortB_perm l
theorem sortE_of_pw {l : List α} (h : l.Pairwise (fun a b => leE a b = true)) : sortE l = l := isortB_of_pw leE_total h
theorem mem_sortE {l : List α} {a : α} : a ∈ sortE l ↔ a ∈ l := (sortE_perm l).mem_iff
theorem leE_anti' (a b : α) (ali : PySem.W.alike (Enc.py a) (Enc.py b) = true) (h1 : leE a b = true) (h2 : leE b a = true) : a = b := by
  unfold leE at h1 h2
  rw [Bool.not_eq_true'] at h1 h2
  have e : PySem.W.keyToks (Enc.py a) = PySem.W.keyToks (Enc.py b) := (listOrd itemOrd).total _ _ h2 h1
  obtain ⟨_, k2⟩ := PySem.W.toks_eqv (Enc.py a) (Enc.py b) ali
  refine (Enc.eqv a b).mp ?_
  cases q : PyData.eqv (Enc.py a) (Enc.py b) with
  | true => rfl
  | false =>
    exfalso
    have := k2 q [] [Sum.inl 0]
    rw [e, List.append_nil] at this
    have i1 : PyProof.Rows.lexLt itemOrd (PySem.W.keyToks (Enc.py b)) (PySem.W.keyToks (Enc.py b)) = false := (listOrd itemOrd).irrefl _
    rw [i1] at this
    have i2 := PySem.W.lex_pre (PySem.W.keyToks (Enc.py b)) [] [Sum.inl 0]
    rw [List.append_nil, this] at i2
    cases i2
variable [EncS α]
theorem leE_anti (a b : α) (h1 : leE a b = true) (h2 : leE b a = true) : a = b := leE_anti' a b (EncS.ali a b) h1 h2
theorem sortE_cong {l m : List α} (p : l.Perm m) : sortE l = sortE m := isortB_cong leE_total leE_anti p
end
instance : EncS Int := ⟨fun _ _ => rfl, .inr fun _ => rfl⟩
instance {α β : Type} [Enc α] [Enc β] [EncS α] [EncS β] : EncS (α × β) := ⟨fun a b => by
  show PySem.W.alikeAll [Enc.py a.1, Enc.py a.2] [Enc.py b.1, Enc.py b.2] = true
  simp only [PySem.W.alikeAll, EncS.ali, Bool.and_self], .inl fun _ => rfl⟩
theorem alike_map {α : Type} [Enc α] [EncS α] : ∀ l m : List α, PySem.W.alikeAll (l.map Enc.py) (m.map Enc.py) = true
  | [], _ => by simp only [List.map_nil, PySem.W.alikeAll]
  | _ :: _, [] => by simp only [List.map_nil, List.map_cons, PySem.W.alikeAll]
  | a :: l, b :: m => by simp only [List.map_cons, PySem.W.alikeAll, EncS.ali, alike_map l m, Bool.and_self]
instance {α : Type} [Enc α] [EncS α] : EncS (List α) := ⟨fun a b => alike_map a b, .inr fun _ => rfl⟩
/-- four numbers -/
structure Q4 where
  a : Int
  b : Int
  c : Int
  d : Int
deriving DecidableEq
instance : Enc Q4 where
  enc := fun q => .tup [.int q.a, .int q.b, .int q.c, .int q.d]
  py := fun q => .tuple [.int q.a, .int q.b, .int q.c, .int q.d]
  dp := 1
  to := fun _ => rfl
  lay := fun _ => rfl
  dep := fun _ => Nat.le_refl _
  eqv := fun p q => by
    cases p; cases q
    simp [PyData.eqv, PyData.eqvAll]
instance : EncS Q4 := ⟨fun _ _ => rfl, .inl fun _ => rfl⟩
/-- what the order of cells is -/
theorem lt_int (a b : Int) : itemLt (.inl a) (.inl b) = decide (a < b) := rfl
theorem dataLt_pair (p q : Int × Int) : PySem.W.dataLt (Enc.py p) (Enc.py q) = decide (p.1 < q.1 ∨ p.1 = q.1 ∧ p.2 < q.2) := by
  rw [show (Enc.py p : PyData) = .tuple [.int p.1, .int p.2] from rfl, show (Enc.py q : PyData) = .tuple [.int q.1, .int q.2] from rfl, PySem.W.dataLt_tuple]
  simp only [PySem.W.keyToksAll, PySem.W.keyToks, List.cons_append, List.nil_append, PyProof.Rows.lexLt, lt_int]
  rw [Bool.eq_iff_iff]
  simp
  omega
theorem leE_pair (p q : Int × Int) : leE p q = decide (p.1 < q.1 ∨ p.1 = q.1 ∧ p.2 ≤ q.2) := by
  unfold leE
  rw [dataLt_pair, Bool.eq_iff_iff]
  simp
  omega
end G


namespace G
open PySem PySem.Spec PyProof.Rows L2

section
variable {g : XG} {tt : XT} {te : XV} {vs : List Nat} {ρ : Rho}
theorem lcRun_step (d : D) (r acc : List D) : lcRun g tt te vs (d :: r) acc ρ = (match lcStep g tt te vs d ρ with
    | .ok (some y) ρ' => lcRun g tt te vs r (acc ++ [y]) ρ'
    | .ok none ρ' => lcRun g tt te vs r acc ρ'
    | _ => .bad) := by
  show (match g d (wipeR ρ vs) with | none => Res.bad | some ρ1 => (tt ρ1).bindX fun b ρ2 => if b = true then (te ρ2).bindX fun y ρ3 => lcRun g tt te vs r (acc ++ [y]) (backR ρ ρ3 vs) else lcRun g tt te vs r acc (backR ρ ρ2 vs)) = _
  unfold lcStep
  cases g d (wipeR ρ vs) with
  | none => rfl
  | some ρ1 =>
    simp only [lcS0]
    cases tt ρ1 with
    | ok b ρ2 =>
      cases b with
      | false => rfl
      | true =>
        simp only [Res.bindX, lcS1, if_true]
        cases te ρ2 <;> rfl
    | exc _ _ => rfl
    | bad => rfl
theorem lcRun_cons {d y : D} {r acc : List D} {ρ' : Rho} (e : lcStep g tt te vs d ρ = .ok (some y) ρ') : lcRun g tt te vs (d :: r) acc ρ = lcRun g tt te vs r (acc ++ [y]) ρ' := by
  rw [lcRun_step, e]
theorem lcRun_skip {d : D} {r acc : List D} {ρ' : Rho} (e : lcStep g tt te vs d ρ = .ok none ρ') : lcRun g tt te vs (d :: r) acc ρ = lcRun g tt te vs r acc ρ' := by
  rw [lcRun_step, e]
theorem lcRun_map {α β : Type} {e1 : α → D} {e2 : β → D} (φ : α → β) : ∀ (l : List α) (acc : List D), (∀ a ∈ l, lcStep g tt te vs (e1 a) ρ = .ok (some (e2 (φ a))) ρ) → lcRun g tt te vs (l.map e1) acc ρ = .ok (acc ++ (l.map φ).map e2) ρ
  | [], acc, _ => by rw [List.map_nil, List.map_nil, List.map_nil, List.append_nil]; rfl
  | a :: l, acc, h => by
    rw [List.map_cons, lcRun_cons (h a (List.mem_cons_self ..)), lcRun_map φ l _ (fun b hb => h b (List.mem_cons_of_mem _ hb))]
    simp only [List.map_cons, List.append_assoc, List.cons_append, List.nil_append]
theorem lcRun_filter {α β : Type} {e1 : α → D} {e2 : β → D} (p : α → Bool) (φ : α → β) : ∀ (l : List α) (acc : List D), (∀ a ∈ l, lcStep g tt te vs (e1 a) ρ = .ok (if p a = true then some (e2 (φ a)) else none) ρ) → lcRun g tt te vs (l.map e1) acc ρ = .ok (acc ++ ((l.filter p).map φ).map e2) ρ
  | [], acc, _ => by rw [List.filter_nil, List.map_nil, List.map_nil, List.map_nil, List.append_nil]; rfl
  | a :: l, acc, h => by
    have h0 := h a (List.mem_cons_self ..)
    rw [List.map_cons]
    cases q : p a with
    | true =>
      rw [q, if_pos rfl] at h0
      rw [lcRun_cons h0, lcRun_filter p φ l _ (fun b hb => h b (List.mem_cons_of_mem _ hb)), List.filter_cons_of_pos q]
      simp only [List.map_cons, List.append_assoc, List.cons_append, List.nil_append]
    | false =>
      rw [q, if_neg (by decide)] at h0
      rw [lcRun_skip h0, lcRun_filter p φ l _ (fun b hb => h b (List.mem_cons_of_mem _ hb)), List.filter_cons_of_neg (by rw [q]; decide)]
end
end G


namespace G
open PySem PySem.Spec PyProof.Rows L2

section
variable {X : Cx} {E : EW} {pos : Pos}
def cutG {α : Type} (xs : List α) (lo hi : Option Int) : List α := (xs.drop (HT.sIx xs.length 0 lo)).take (HT.sIx xs.length xs.length hi - HT.sIx xs.length 0 lo)
theorem RpAll.cut {K : PySem.W.Frag} {F : Hp} {vs : List V} {ds : List D} (h : RpAll K F vs ds) (lo hi : Option Int) : RpAll K F (cutV vs lo hi) (cutG ds lo hi) := by
  have hl := h.length
  unfold cutV cutG
  rw [hl]
  exact (h.drop _).take _
abbrev XP := Rho → Res (Option Int)
def lPO (K : PySem.W.Frag) (E : EW) (t : XP) : TO := fun σ H Q => ∃ F ρ, Rel K F H ρ σ ∧ Pend K E t ρ σ F H fun o _ _ H' => Q o H'
theorem po_imp {e : Option Expr} {t t' : TO} (h : PO X e t) (k : ∀ σ H Q, t' σ H Q → t σ H Q) : PO X e t' := ⟨fun pins s σ H Q I q => h.run pins s σ H Q I (k σ H Q q)⟩
def xpNone : XP := fun ρ => .ok none ρ
def partk : D → Rho → Res (Option Int) := fun d ρ1 => match d with
  | .int i => .ok (some i) ρ1
  | _ => .bad
def xpSome (te : XV) : XP := fun ρ => (te ρ).bind partk
theorem xp_none : PO X none (lPO X.K E xpNone) := po_imp po_none fun σ H Q h => by
  obtain ⟨F, ρ, r, p⟩ := h
  exact p F H (Go.refl r)
theorem xp_some {e : Expr} {te : XV} (h : PE X e (lE X.K E te)) : PO X (some e) (lPO X.K E (xpSome te)) := po_imp (po_some h) fun σ H Q h => by
  obtain ⟨F, ρ, r, p⟩ := h
  refine ⟨F, ρ, r, (Pend.bind r p).mono fun x ρ1 F1 H1 g1 q v rv => ?_⟩
  unfold Pend partk at q
  cases x with
  | int i => cases rv; exact ⟨i, rfl, q F1 H1 (Go.refl g1.rel)⟩
  | non => exact q.elim
  | bl _ => exact q.elim
  | str _ => exact q.elim
  | ty _ => exact q.elim
  | tup _ => exact q.elim
  | lst _ => exact q.elim
  | fix _ => exact q.elim
  | dicK _ _ => exact q.elim
  | dicT _ _ => exact q.elim
  | dicN _ _ => exact q.elim
  | exn _ => exact q.elim
  | inst _ _ => exact q.elim
  | _ => exact q.elim
def dSlL (x : D) (lo hi : Option Int) : Option D := (dItL x).map fun ds => .lst (cutG ds lo hi)
def slk2 (f : D → Option Int → Option Int → Option D) (x : D) (lo : Option Int) : Option Int → Rho → Res D := fun hi => lift (f x lo) hi
def slk1 (f : D → Option Int → Option Int → Option D) (th : XP) (x : D) : Option Int → Rho → Res D := fun lo ρ => (th ρ).bind (slk2 f x lo)
def slk0 (f : D → Option Int → Option Int → Option D) (tl th : XP) : D → Rho → Res D := fun x ρ => (tl ρ).bind (slk1 f th x)
def xSl (f : D → Option Int → Option Int → Option D) (te : XV) (tl th : XP) : XV := fun ρ => (te ρ).bind (slk0 f tl th)
theorem xn_slice {e : Expr} {lo hi : Option Expr} {te : XV} {tl th : XP} {p2 : Pos} (he : PE X e (lE X.K E te)) (hl : PO X lo (lPO X.K E tl)) (hu : PO X hi (lPO X.K E th)) : PE X (.Subscript e (.Slice lo hi none p2) pos) (lN X.K E (xSl dSlL te tl th)) := pe_imp (pe_slice sl_list he hl hu) fun σ H Q h => by
  obtain ⟨F, ρ, r, p⟩ := h
  refine ⟨F, ρ, r, (Pend.bind r p).mono fun x ρ1 F1 H1 g1 q v rv => ⟨F1, ρ1, g1.rel, (Pend.bind g1.rel q).mono fun l ρ2 F2 H2 g2 q2 => ⟨F2, ρ2, g2.rel, (Pend.bind g2.rel q2).mono fun u ρ3 F3 H3 g3 q3 => ?_⟩⟩⟩
  obtain ⟨d, e, q4⟩ := q3.lift
  unfold dSlL at e
  cases q5 : dItL x with
  | none => rw [q5] at e; cases e
  | some ds =>
    rw [q5] at e
    cases e
    obtain ⟨a, xs, rfl, hs, rs⟩ := dItL_of q5 (rv.mono (g2.ex.trans g3.ex))
    have gg := (g1.trans r g2).trans r g3
    exact ⟨a, xs, rfl, g3.rel.ex.seq hs, fun p hp => (outN_of r gg q4).new g3.rel.ex hp (.lst (rs.cut l u))⟩
end
section
variable (ρ ρ1 : Rho) (i : Nat) (ta tb : XV) (tl th : XP)
theorem zeH (f : D → Option Int → Option Int → Option D) : xSl f ta tl th ρ = (ta ρ).bind (slk0 f tl th) := rfl
theorem zeI (f : D → Option Int → Option Int → Option D) (x : D) : slk0 f tl th x ρ = (tl ρ).bind (slk1 f th x) := rfl
theorem zeJ (f : D → Option Int → Option Int → Option D) (x : D) (lo : Option Int) : slk1 f th x lo ρ = (th ρ).bind (slk2 f x lo) := rfl
theorem zeK (f : D → Option Int → Option Int → Option D) (x : D) (lo hi : Option Int) : slk2 f x lo hi ρ = liftO (f x lo hi) ρ := rfl
theorem zeL : xpNone ρ = .ok none ρ := rfl
theorem zeM : xpSome ta ρ = (ta ρ).bind partk := rfl
theorem zeN (i : Int) : partk (.int i) ρ = .ok (some i) ρ := rfl
theorem zeO (ds : List D) (lo hi : Option Int) : dSlL (.lst ds) lo hi = some (.lst (cutG ds lo hi)) := rfl
end
end G


namespace G
open PySem PySem.Spec PyProof.Rows L2

section
variable {X : Cx} {cv : String → Value} {pos : Pos} {W : WX}
end
end G


namespace G
open PySem PySem.Spec PyProof.Rows L2

section
variable {P : Program} {w : World} {A : Around} {s : Shared} {E : Value → Shared → Prop}
end
section
variable {X : Cx}
end
def dd {α : Type} [DecidableEq α] : List α → List α
  | [] => []
  | a :: l => if a ∈ l then dd l else a :: dd l
theorem mem_dd {α : Type} [DecidableEq α] {b : α} : ∀ {l : List α}, b ∈ dd l ↔ b ∈ l
  | [] => Iff.rfl
  | a :: l => by
    unfold dd
    split
    · rename_i h
      rw [mem_dd, List.mem_cons]
      exact ⟨.inr, fun z => z.elim (fun e => e ▸ h) id⟩
    · rw [List.mem_cons, List.mem_cons, mem_dd]
section
variable {X : Cx} {E : EW} {pos : Pos}
end
end G


namespace G
open PySem PySem.Spec PyProof.Rows L2

section
variable {P : Program} {w : World} {A : Around} {s : Shared} {E : Value → Shared → Prop}
end
end G


namespace G
open PySem PySem.Spec PyProof.Rows L2

section
variable {P : Program} {w : World} {A : Around} {s : Shared} {E : Value → Shared → Prop}
end
end G


namespace G
open PySem PySem.Spec PyProof.Rows L2

section
variable {X : Cx}
end
section
variable {X : Cx} {E : EW} {pos : Pos}
end
end G


namespace G
open PySem PySem.Spec PyProof.Rows L2

def flatD : D → Bool
  | .non => true
  | .bl _ => true
  | .int _ => true
  | .str _ => true
  | _ => false
def vOf : D → V
  | .bl b => .bl b
  | .int i => .int i
  | .str x => .str x
  | _ => .non
theorem vOf_is {K : PySem.W.Frag} {F : Hp} {v : V} {d : D} (r : Rp K F v d) (h : flatD d = true) : v = vOf d ∧ flatV v = true := by
  cases r with
  | non => exact ⟨rfl, rfl⟩
  | bl _ => exact ⟨rfl, rfl⟩
  | int _ => exact ⟨rfl, rfl⟩
  | str _ => exact ⟨rfl, rfl⟩
  | ty _ => cases h
  | tup _ _ => cases h
  | lst _ _ => cases h
  | fix _ _ => cases h
  | dicK _ _ _ => cases h
  | dicT _ _ _ => cases h
  | dicN _ _ _ _ => cases h
  | exn _ _ => cases h
  | inst _ _ _ _ => cases h
  | _ => cases h
theorem vOf_all {K : PySem.W.Frag} {F : Hp} : ∀ {vs : List V} {ds : List D}, RpAll K F vs ds → ds.all flatD = true → vs = ds.map vOf ∧ vs.all flatV = true
  | _, _, .nil, _ => ⟨rfl, rfl⟩
  | _, _, .cons a b, h => by
    rw [List.all_cons, Bool.and_eq_true] at h
    obtain ⟨h1, h2⟩ := vOf_is a h.1
    obtain ⟨k1, k2⟩ := vOf_all b h.2
    exact ⟨by rw [List.map_cons, ← h1, ← k1], by rw [List.all_cons, h2, k2]; rfl⟩
def dInT (x y : D) : Option D := (dItT y).bind fun ds => if flatD x = true ∧ ds.all flatD = true then some (.bl (inV (vOf x) (ds.map vOf))) else none
theorem imp_inT {K : PySem.W.Frag} : Imp2 K dInT (rIn K false) := fun F H v w x y d Q ex rx ry e o => by
  unfold dInT at e
  cases q : dItT y with
  | none => rw [q] at e; cases e
  | some ds =>
    rw [q] at e
    simp only [Option.bind_some] at e
    split at e
    · rename_i hf
      cases e
      cases ry with
      | tup hh ra =>
        cases q
        obtain ⟨e1, f1⟩ := vOf_is rx hf.1
        obtain ⟨e2, f2⟩ := vOf_all ra hf.2
        subst e1 e2
        exact ⟨_, _, rfl, .inr (SqT.of (ex _ _ hh)), f1, f2, o.here ex (.bl _)⟩
      | non => cases q
      | bl _ => cases q
      | int _ => cases q
      | str _ => cases q
      | ty _ => cases q
      | lst _ _ => cases q
      | fix _ _ => cases q
      | dicK _ _ _ => cases q
      | dicT _ _ _ => cases q
      | dicN _ _ _ _ => cases q
      | exn _ _ => cases q
      | inst _ _ _ _ => cases q
      | _ => cases q
    · cases e
def rInA (K : PySem.W.Frag) : R2 := fun x y H Q => rInD K x y H Q ∨ rIn K false x y H Q
theorem op_inA {X : Cx} (hu : X.A.units + 65 < cLine) : OpR X (compareOp .In) (rInA X.K) := by
  intro pins s σ H x y v u Q I rx ry h
  rcases h with h | h
  · exact op_inD hu pins s σ H x y v u Q I rx ry h
  · exact op_in_seq pins s σ H x y v u Q I rx ry h
section
end
theorem zeX (n : Int) : ∀ ns : List Int, inV (.int n) (ns.map V.int) = decide (n ∈ ns)
  | [] => rfl
  | m :: ns => by
    show (eqV (.int m) (.int n) || inV (.int n) (ns.map V.int)) = _
    rw [zeX n ns, show eqV (.int m) (.int n) = decide (m = n) from rfl]
    by_cases h : m = n
    · subst h; simp
    · have h2 : ¬ n = m := fun e => h e.symm
      simp [h, h2]
theorem zeY : ∀ ns : List Int, (ns.map D.int).all flatD = true
  | [] => rfl
  | _ :: ns => zeY ns
theorem zeZ : ∀ ns : List Int, (ns.map D.int).map vOf = ns.map V.int
  | [] => rfl
  | n :: ns => by rw [List.map_cons, List.map_cons, zeZ ns]; rfl
theorem zfa (n : Int) (ns : List Int) : dInT (.int n) (.tup (ns.map D.int)) = some (.bl (decide (n ∈ ns))) := by
  unfold dInT dItT
  simp only [Option.bind_some]
  rw [if_pos ⟨rfl, zeY ns⟩, zeZ]
  show some (D.bl (inV (.int n) (ns.map V.int))) = _
  rw [zeX]
end G


namespace G
open PySem PySem.Spec PyProof.Rows L2

section
variable {g : XG} {body : XS}
end
end G


namespace G
open PySem PySem.Spec PyProof.Rows L2

section
variable {g : XG} {tt : XT} {te : XV} {vs : List Nat} {ρ : Rho}
theorem lcMap {α β : Type} {e1 : α → D} (e2 : β → D) (φ : α → β) {l : List α} (h : ∀ a ∈ l, lcStep g tt te vs (e1 a) ρ = .ok (some (e2 (φ a))) ρ) : lcRun g tt te vs (l.map e1) [] ρ = .ok ((l.map φ).map e2) ρ := lcRun_map φ l [] h
theorem lcFilt {α β : Type} {e1 : α → D} (e2 : β → D) (p : α → Bool) (φ : α → β) {l : List α} (h : ∀ a ∈ l, lcStep g tt te vs (e1 a) ρ = .ok (if p a = true then some (e2 (φ a)) else none) ρ) : lcRun g tt te vs (l.map e1) [] ρ = .ok (((l.filter p).map φ).map e2) ρ := lcRun_filter p φ l [] h
variable {body : XS}
end
abbrev cells (cs : List (Int × Int)) : D := .lst (cs.map cellP)
theorem szn {n : Nat} (h : n ≤ 1000) : n ≤ sizeLine := Nat.le_trans h (by rw [sizeLine_eq]; decide)
theorem all_bl (bs : List Bool) : dAll [.lst (bs.map D.bl)] = some (.bl (bs.all id)) := by
  unfold dAll dItL
  simp only [Option.bind_some, dBools_bl, Option.map_some]
def mx (i j : Int) : Int := if j > i then j else i
def N4 : List (Int × Int) := [(-1, 0), (0, -1), (0, 1), (1, 0)]
def N6 : List (Int × Int) := [(-1, -1), (-1, 0), (0, -1), (0, 1), (1, 0), (1, 1)]
def N8 : List (Int × Int) := [(-1, -1), (-1, 0), (-1, 1), (0, -1), (0, 1), (1, -1), (1, 0), (1, 1)]
def near : Int → List (Int × Int)
  | 4 => N4
  | 6 => N6
  | _ => N8
def app (t : Q4) (p : Int × Int) : Int × Int := (t.a * p.1 + t.b * p.2, t.c * p.1 + t.d * p.2)
abbrev q4 (t : Q4) : D := .tup [.int t.a, .int t.b, .int t.c, .int t.d]
def T4 : List Q4 := [⟨-1, 0, 0, -1⟩, ⟨-1, 0, 0, 1⟩, ⟨0, -1, -1, 0⟩, ⟨0, -1, 1, 0⟩, ⟨0, 1, -1, 0⟩, ⟨0, 1, 1, 0⟩, ⟨1, 0, 0, -1⟩, ⟨1, 0, 0, 1⟩]
def sh (d p : Int × Int) : Int × Int := (p.1 + d.1, p.2 + d.2)
theorem zfb {a b : List D} (h : a.length + b.length ≤ sizeLine) : dAdd (.lst a) (.lst b) = some (.lst (a ++ b)) := if_pos h
theorem zfc {a b : List D} (h : a.length + b.length ≤ sizeLine) : dAddL (.lst a) (.lst b) = some (.lst (a ++ b)) := if_pos h
theorem sz_1 : 1 ≤ sizeLine := szn (by decide)
theorem sz_2 : 2 ≤ sizeLine := szn (by decide)
theorem sz_3 : 3 ≤ sizeLine := szn (by decide)
theorem sz_4 : 4 ≤ sizeLine := szn (by decide)
theorem sz_0 : 0 ≤ sizeLine := szn (by decide)
theorem zfd : 0 < sizeLine := by rw [sizeLine_eq]; decide
theorem zff (ds : List D) : dIsi [.lst ds, .ty "list"] = some (.bl true) := rfl
theorem zfg (ds : List D) : dIsi [.tup ds, .ty "tuple"] = some (.bl true) := rfl
theorem zfh (n : Int) : dIsi [.int n, .ty "int"] = some (.bl true) := rfl
theorem zfi (n : Int) : dIsi [.int n, .ty "bool"] = some (.bl false) := rfl
theorem zfj (b : Bool) : dIsi [.bl b, .ty "bool"] = some (.bl true) := by cases b <;> rfl
theorem zfn (b : Bool) : dIs (.bl b) .non = some (.bl false) := rfl
theorem zfo : dIs .non .non = some (.bl true) := rfl
theorem zfp (b : Bool) : dIsNot (.bl b) .non = some (.bl true) := rfl
theorem zfq : dIsNot .non .non = some (.bl false) := rfl
theorem zfr (ds : List D) : dIs (.tup ds) .non = some (.bl false) := rfl
theorem zfs (ds : List D) : dIsNot (.tup ds) .non = some (.bl true) := rfl
theorem zft (ds : List D) : dIs (.lst ds) .non = some (.bl false) := rfl
theorem zfu (ds : List D) : dIsNot (.lst ds) .non = some (.bl true) := rfl
theorem zfw (i j : Int) : dMax2 [.int i, .int j] = some (.int (mx i j)) := rfl
theorem nc_0 : ((0 : Nat) : Int) = 0 := rfl
theorem nc_1 : ((1 : Nat) : Int) = 1 := rfl
theorem nc_2 : ((2 : Nat) : Int) = 2 := rfl
theorem nc_3 : ((3 : Nat) : Int) = 3 := rfl
theorem nc_4 : ((4 : Nat) : Int) = 4 := rfl
theorem nc_5 : ((5 : Nat) : Int) = 5 := rfl
theorem nc_6 : ((6 : Nat) : Int) = 6 := rfl
theorem nc_7 : ((7 : Nat) : Int) = 7 := rfl
theorem nc_8 : ((8 : Nat) : Int) = 8 := rfl
theorem nc_9 : ((9 : Nat) : Int) = 9 := rfl
theorem zfx : ((10 : Nat) : Int) = 10 := rfl
theorem zfy : ((11 : Nat) : Int) = 11 := rfl
theorem zfz : ((12 : Nat) : Int) = 12 := rfl
theorem zfA : ((13 : Nat) : Int) = 13 := rfl
theorem zfB : ((14 : Nat) : Int) = 14 := rfl
theorem zfC : ((15 : Nat) : Int) = 15 := rfl
theorem zfD : ((16 : Nat) : Int) = 16 := rfl
theorem zfE : ((17 : Nat) : Int) = 17 := rfl
theorem zfF : ((18 : Nat) : Int) = 18 := rfl
theorem zfG : ((19 : Nat) : Int) = 19 := rfl
theorem zfH : ((20 : Nat) : Int) = 20 := rfl
end G


set_option maxHeartbeats 4000000
namespace G
open PySem PySem.Spec PyProof.Rows L2

section
variable {α : Type} [Enc α]
variable [EncS α]
end
abbrev Kind (k : Int) : Prop := k = 4 ∨ k = 6 ∨ k = 8
end G


set_option maxHeartbeats 4000000
namespace G
open PySem PySem.Spec PyProof.Rows L2

theorem cutG_map {α β : Type} (f : α → β) (l : List α) (lo hi : Option Int) : cutG (l.map f) lo hi = (cutG l lo hi).map f := by
  unfold cutG
  rw [List.length_map, List.map_take, List.map_drop]
theorem cutG_to {α : Type} (l : List α) (n : Nat) : cutG l none (some (n : Int)) = l.take n := by
  unfold cutG
  rw [HT.sIx_none, HT.sIx_nat, List.drop_zero, Nat.sub_zero]
  by_cases h : n ≤ l.length
  · rw [Nat.min_eq_left h]
  · rw [Nat.min_eq_right (by omega), List.take_of_length_le (Nat.le_refl _), List.take_of_length_le (by omega)]
theorem cutG_from {α : Type} (l : List α) (n : Nat) : cutG l (some (n : Int)) none = l.drop n := by
  unfold cutG
  rw [HT.sIx_none, HT.sIx_nat]
  by_cases h : n ≤ l.length
  · rw [Nat.min_eq_left h, List.take_of_length_le (by rw [List.length_drop]; exact Nat.le_refl _)]
  · rw [Nat.min_eq_right (by omega), List.drop_of_length_le (by omega), List.drop_of_length_le (by omega), List.take_nil]
theorem zfK : (true == true) = true := rfl
theorem zfL : (false == false) = true := rfl
theorem zfM : (true == false) = false := rfl
theorem zfN : (false == true) = false := rfl
end G


set_option maxHeartbeats 4000000
namespace G
open PySem PySem.Spec PyProof.Rows L2

section
variable {K : PySem.W.Frag} {F H F1 H1 : Hp} {ρ ρ1 : Rho} {σ σ1 : L2.St}
theorem Go.setSlot {i : Nat} {s : Slot} {o : Option V} (h0 : i ≠ 0) (hs : ∀ d, s ≠ .own d) (hr : ∀ d, s ≠ .rd d) (r : Rel K F H ρ σ) (rv : SRel K F H s o) : Go K ρ σ F H (ρ.set i s) (σ.set i o) F H where
  rel := by
    refine ⟨r.ex, by rw [List.length_set, List.length_set]; exact r.len, fun j s' o' h1 h2 => ?_, fun j k d1 d2 p h1 h2 h3 h4 => ?_, fun j d1 p h1 h2 h3 => ?_⟩
    · rcases get_set h1 with ⟨e, rfl⟩ | ⟨hj, h1⟩ <;> rcases get_set h2 with ⟨e2, rfl⟩ | ⟨hj2, h2⟩
      · exact rv
      · exact absurd e hj2
      · exact absurd e2 hj
      · exact r.at' j s' o' h1 h2
    · rcases get_set h1 with ⟨_, q⟩ | ⟨hj, h1⟩
      · exact absurd q.symm (hs d1)
      · rcases get_set h2 with ⟨_, q⟩ | ⟨hk, h2⟩
        · exact absurd q.symm (hs d2)
        · rw [List.getElem?_set_ne hj] at h3
          rw [List.getElem?_set_ne hk] at h4
          exact r.dis j k d1 d2 p h1 h2 h3 h4
    · rcases get_set h1 with ⟨_, q⟩ | ⟨hj, h1⟩
      · exact absurd q.symm (hr d1)
      · rw [List.getElem?_set_ne hj] at h2
        exact r.rdis j d1 p h1 h2 (own_set_val hs h3)
  ex := Same.refl F
  keep := fun _ _ h1 h2 _ => ⟨h1, fun _ => h2⟩
  own := fun p h => .inl (own_set_val hs h)
  low := List.getElem?_set_ne h0
  lowO := fun d h => ⟨d, by rw [List.getElem?_set_ne h0]; exact h⟩
  rdb := fun j e h => by
    rcases get_set h with ⟨_, q⟩ | ⟨hj, h⟩
    · exact absurd q.symm (hr e)
    · exact ⟨h, List.getElem?_set_ne hj⟩
end
/-- what a class of the program that is raised must say -/
structure ExcT (K : PySem.W.Frag) (C : Addr) : Prop where
  ex : PySem.W.excIn K C [.type "ValueError", .type "Exception", .type "BaseException", .type "object"] "ValueError.__new__" = true
  kp : PySem.W.keepIn K (.ref C) = true
  sb : PySem.W.subIn K (.ref C) (.type "BaseException") = some true
  ty : PySem.W.typeIn K (.ref C) = some (.type "type")
section
variable {X : Cx} {E : EW} {fr : Bool} {cv : String → Value} {W : WX}
def xRaise (c : String) : XS := fun ρ => .exc c ρ
theorem xs_raise {x m : Str} {c : String} {C : Addr} {j : Nat} {p p2 pos pos2 : Pos} (hc : X.calm = true) (tk : Takes X W) (T : ExcT X.K C) (gC : X.mg x = some (.ref C)) (hg : Gl X x) (hcv : cv c = .ref C) (hdb : (x == ("__debug__" : Str)) = false := by decide) :
    PS X (.Raise (some (.Call (.Name x p) [.Constant (.str m) j p2] [] pos)) none pos2) (lS X.K (EWx cv W) fr (xRaise c)) :=
  ps_imp (ps_raise hc tk (pmk_own PySem.F.excBase_ValueError T.ex gC T.kp (raises_own T.sb T.ty) hg hdb)) fun C σ H h => by
    obtain ⟨F, ρ, r, p⟩ := h
    unfold PendS xRaise at p
    rw [← hcv]
    exact p σ F H (Go.refl r)
/-- the names of classes, one behind another -/
inductive ClsNs (X : Cx) : List Expr → List V → List Value → Prop
  | nil : ClsNs X [] [] []
  | ref {x : Str} {p : Pos} {C : Addr} {es : List Expr} {cs : List V} {us : List Value} : Gl X x → X.mg x = some (.ref C) → (x == ("__debug__" : Str)) = false → ClsNs X es cs us → ClsNs X (.Name x p :: es) (.ref C :: cs) (.ref C :: us)
/-- a row of known values -/
def tKnown (vs : List V) : TA := fun σ H Q => Q vs H
theorem pa_cls {es : List Expr} {cs : List V} {us : List Value} (h : ClsNs X es cs us) (hst : ∀ (x : Str) (p : Pos) (rest : List Expr), starEach (.Name x p :: rest) X.env = (false, eval (.Name x p) X.env) :: starEach rest X.env) : PA X es (tKnown cs) := by
  induction h with
  | nil => exact pa_imp pa_nil fun σ H Q h => h
  | @ref x p C es cs us hg hm hd _ ih =>
    exact pa_imp (pa_cons (pe_glob (v := .ref C) hg hm rfl hd) ih (hst x p es)) fun σ H Q h => h
end
/-- what a class of the program that is named must say -/
structure ClsT (K : PySem.W.Frag) (C : Addr) : Prop where
  cl : PySem.W.isClsIn K C = true
  ty : PySem.W.typeIn K (.ref C) = some (.type "type")
  sf : PySem.W.subIn K (.ref C) (.ref C) = some true
section
variable {K : PySem.W.Frag} {D C : Addr} {b b' : Bool}
theorem kit_ref (c : ClsT K C) (h : PySem.W.subIn K (.ref D) (.ref C) = some b) : PySem.W.kitOne K (.ref D) (.ref C) = some b := by
  unfold PySem.W.kitOne
  by_cases e : D = C
  · subst e
    rw [c.sf] at h
    rw [if_pos (by simp)]
    exact h
  · rw [if_neg (by simpa using e)]
    unfold PySem.W.kitCls
    have h2 : ((PySem.W.clsIn K C).isSome && PySem.W.typeIn K (.ref C) == some (.type "type")) = true := by
      have : (PySem.W.clsIn K C).isSome = true := c.cl
      rw [this, c.ty]
      rfl
    simp only
    rw [if_pos h2]
    exact h
theorem kit_tyE {T : String} (hm : PySem.W.kitMeta T = true) (h : PySem.W.subIn K (.ref D) (.type T) = some b) : PySem.W.kitOne K (.ref D) (.type T) = some b := by
  unfold PySem.W.kitOne
  rw [if_neg (by simp)]
  unfold PySem.W.kitCls
  simp only
  rw [if_pos hm]
  exact h
theorem kit_nil {t : Value} : PySem.W.kitAny K t [] = some false := rfl
theorem kit_cons {t c : Value} {r : List Value} (h : PySem.W.kitOne K t c = some b) (h2 : PySem.W.kitAny K t r = some b') : PySem.W.kitAny K t (c :: r) = some (b || b') := by
  unfold PySem.W.kitAny
  rw [h]
  cases b
  · exact h2
  · rfl
theorem kit_to {x : Option Bool} (h : b = b') (e : x = some b) : x = some b' := h ▸ e
theorem exm_of {cls : Value} (c : ClsT K C) (h1 : PySem.W.subIn K (.ref C) (.type "BaseException") = some true) (h : PySem.W.subIn K cls (.ref C) = some b) : PySem.W.exmOne K cls (.ref C) = some b := by
  have e1 : (PySem.W.subIn K (.ref C) (.type "BaseException") == some true) = true := by rw [h1]; rfl
  have h2 : ((PySem.W.clsIn K C).isSome && PySem.W.typeIn K (.ref C) == some (.type "type")) = true := by
    have : (PySem.W.clsIn K C).isSome = true := c.cl
    rw [this, c.ty]
    rfl
  unfold PySem.W.exmOne
  rw [if_pos e1]
  unfold PySem.W.kitCls
  simp only
  rw [if_pos h2]
  exact h
end
/-- whether an exception of the class k is one of these -/
def isX (k : String) (l : List String) : Bool := l.any fun c => c == k || c == "CellError" || c == "ValueError"
theorem bt_ValueError : bootBuiltins "ValueError" = some (.type "ValueError") := by decide +kernel
theorem meta_ValueError : PySem.W.kitMeta "ValueError" = true := by decide +kernel
def spA (K : PySem.W.Frag) (g : DF) : Sp := fun vs H Q E => ∀ cv : String → Value, spP K cv false [false] g vs H Q E
theorem fnOk_A {P : Program} {w : World} {K : PySem.W.Frag} {mg : Str → Option Value} {base : Heap} {CX : CXT} {k : Nat} {f : Addr} {fd : FuncData} {ps : List Str} {cv : String → Value} {g : DF} (h : FnOk P w K mg base CX k f fd ps (spP K cv false [false] g)) : FnOk P w K mg base CX k f fd ps (spA K g) :=
  ⟨fun vs H Q E z => h.len vs H Q E (z cv), fun A outer s H args us vs Q E r e b rv z => h.run A outer s H args us vs Q E r e b rv (z cv)⟩
theorem law_spA {K : PySem.W.Frag} {g : DF} {H : Hp} {a : Addr} {ns : List Int} {E : XK} (hS : SqL K H a (ns.map V.int)) (h : g [.fix (ns.map D.int)] = .ok (.bl true) []) : spA K g [.ref a] H (fun v _ => v = .bl true) E := fun _ => law_sp hS h
section
variable {X : Cx} {E : EW} {pos : Pos}
/-- a number that the module holds -/
theorem xe_num {x : Str} {n : Int} (hg : Gl X x) (hm : ∃ t, X.mg x = some (.int n t)) (hd : (x == ("__debug__" : Str)) = false := by decide) : PE X (.Name x pos) (lE X.K E (xC (.int n))) := by
  obtain ⟨t, hm⟩ := hm
  exact xe_const (pe_glob (v := .int n) hg hm ⟨t, rfl⟩ hd) fun _ => .int n
end
section
variable (ρ : Rho) (i : Nat)
theorem zfO (c : String) : xRaise c ρ = .exc c ρ := rfl
end
end G


set_option maxHeartbeats 4000000
namespace G
open PySem PySem.Spec PyProof.Rows L2

section
variable {P : Program} {w : World} {A : Around} {s : Shared} {E : Value → Shared → Prop}
end
section
variable {X : Cx} {E : EW} {pos : Pos}
end
section
variable {X : Cx} {E : EW} {pos : Pos}
def dRev (x : D) : Option D := (dItL x).map fun ds => .lst ds.reverse
theorem xn_rev {e : Expr} {te : XV} {k : Nat} {p1 p2 p3 : Pos} (he : PE X e (lE X.K E te)) : PE X (.Subscript e (.Slice none none (some (.UnaryOp .USub (.Constant (.int 1) k p1) p2)) p3) pos) (lN X.K E (xOp1 dRev te)) := by
  refine pe_imp (pe_revL he) fun σ H Q h => ?_
  obtain ⟨F, ρ, r, p⟩ := h
  refine ⟨F, ρ, r, (Pend.bind r p).mono fun x ρ1 F1 H1 g1 q v rv => ?_⟩
  obtain ⟨d, ed, q2⟩ := q.lift
  have o := outN_of r g1 q2
  unfold dRev at ed
  cases q5 : dItL x with
  | none => rw [q5] at ed; cases ed
  | some ds =>
    rw [q5] at ed
    cases ed
    obtain ⟨l, xs, rfl, hs, rs⟩ := dItL_of q5 rv
    exact ⟨l, xs, rfl, g1.rel.ex.seq hs, fun p hp => o.new g1.rel.ex hp (.lst rs.reverse)⟩
end
theorem zfV (ds : List D) : dRev (.lst ds) = some (.lst ds.reverse) := rfl
end G


set_option maxHeartbeats 4000000
namespace G
open PySem PySem.Spec PyProof.Rows L2

def rNotInA (K : PySem.W.Frag) : R2 := fun x y H Q => rNotInD K x y H Q ∨ rIn K true x y H Q
theorem op_notInA {X : Cx} (hu : X.A.units + 65 < cLine) : OpR X (compareOp .NotIn) (rNotInA X.K) := (op_notInD hu).or op_notIn_seq
end G


set_option maxHeartbeats 4000000
namespace G
open PySem PySem.Spec PyProof.Rows L2

def kOf : D → Option Key
  | .int i => some (.inl i)
  | .str x => some (.inr x)
  | _ => none
def kTs : List D → Option (List Key)
  | [] => some []
  | d :: ds => (kOf d).bind fun k => (kTs ds).map (k :: ·)
def kTof : D → Option (List Key)
  | .tup ds => kTs ds
  | _ => none
def lk {κ : Type} [DecidableEq κ] (es : List (κ × D)) (k : κ) : Option D := (es.find? fun e => decide (e.1 = k)).map (·.2)
def pt {κ : Type} [DecidableEq κ] (es : List (κ × D)) (k : κ) (d : D) : List (κ × D) :=
  if (es.any fun e => decide (e.1 = k)) = true then es.map (fun e => if e.1 = k then (e.1, d) else e) else es ++ [(k, d)]
section
variable {K : PySem.W.Frag} {F F' H H' : Hp}
theorem kOf_rp {v : V} {x : D} {k : Key} (r : Rp K F v x) (h : kOf x = some k) : v = kV k := by
  cases r <;> first | (cases h; rfl) | cases h
theorem kTs_rp : ∀ {vs : List V} {ds : List D} {ks : List Key}, RpAll K F vs ds → kTs ds = some ks → vs = ks.map kV
  | _, _, ks, .nil, h => by cases h; rfl
  | _, _, ks, .cons (d := d) (ds := ds) a b, h => by
    unfold kTs at h
    cases q : kOf d with
    | none => rw [q] at h; cases h
    | some k =>
      rw [q] at h
      simp only [Option.bind_some] at h
      cases q2 : kTs ds with
      | none => rw [q2] at h; cases h
      | some ks' =>
        rw [q2] at h
        cases h
        rw [kOf_rp a q, kTs_rp b q2]
        rfl
theorem kTof_rp {v : V} {x : D} {k : List Key} (r : Rp K F v x) (h : kTof x = some k) : ∃ b, v = .ref b ∧ F b = some (.tup (k.map kV)) := by
  cases r <;> first | (cases h; done) | skip
  rename_i a xs ds hf ra
  have := kTs_rp ra h
  subst this
  exact ⟨_, rfl, hf⟩
/-- entries that stand for entries -/
inductive RpE {κ : Type} (K : PySem.W.Frag) (F : Hp) : List (κ × V) → List (κ × D) → Prop
  | nil : RpE K F [] []
  | cons {k : κ} {v : V} {d : D} {kvs : List (κ × V)} {es : List (κ × D)} : Rp K F v d → RpE K F kvs es → RpE K F ((k, v) :: kvs) ((k, d) :: es)
theorem RpE.of {κ : Type} : ∀ {kvs : List (κ × V)} {es : List (κ × D)}, kvs.map (·.1) = es.map (·.1) → RpAll K F (kvs.map (·.2)) (es.map (·.2)) → RpE K F kvs es
  | [], [], _, _ => .nil
  | [], _ :: _, h, _ => by cases h
  | _ :: _, [], h, _ => by cases h
  | (k, v) :: kvs, (k', d) :: es, h, r => by
    cases r with
    | cons r1 r2 =>
      rw [List.map_cons, List.map_cons] at h
      obtain ⟨e1, e2⟩ := List.cons.inj h
      have e1' : k = k' := e1
      subst e1'
      exact .cons r1 (RpE.of e2 r2)
theorem RpE.keys {κ : Type} {kvs : List (κ × V)} {es : List (κ × D)} (h : RpE K F kvs es) : kvs.map (·.1) = es.map (·.1) := by
  induction h with
  | nil => rfl
  | cons _ _ ih => rw [List.map_cons, List.map_cons, ih]
theorem RpE.vals {κ : Type} {kvs : List (κ × V)} {es : List (κ × D)} (h : RpE K F kvs es) : RpAll K F (kvs.map (·.2)) (es.map (·.2)) := by
  induction h with
  | nil => exact .nil
  | cons r _ ih => exact .cons r ih
theorem RpE.len {κ : Type} {kvs : List (κ × V)} {es : List (κ × D)} (h : RpE K F kvs es) : kvs.length = es.length := by
  have := congrArg List.length h.keys
  rwa [List.length_map, List.length_map] at this
theorem RpE.append {κ : Type} {kvs kvs' : List (κ × V)} {es es' : List (κ × D)} (h : RpE K F kvs es) (h' : RpE K F kvs' es') : RpE K F (kvs ++ kvs') (es ++ es') := by
  induction h with
  | nil => exact h'
  | cons r _ ih => exact .cons r ih
def RO (K : PySem.W.Frag) (F : Hp) : Option V → Option D → Prop
  | some v, some d => Rp K F v d
  | none, none => True
  | _, _ => False
section
variable {κ : Type} [DecidableEq κ]
theorem RpE.lk {kvs : List (κ × V)} {es : List (κ × D)} (h : RpE K F kvs es) (k : κ) : RO K F (valV kvs k) (G.lk es k) := by
  induction h with
  | nil => exact True.intro
  | @cons j v d kvs es r _ ih =>
    by_cases e : j = k
    · rw [valV_pos (p := (j, v)) e]
      unfold G.lk
      rw [List.find?_cons_of_pos (by simpa using e)]
      exact r
    · rw [valV_neg (p := (j, v)) e]
      unfold G.lk
      rw [List.find?_cons_of_neg (by simpa using e)]
      exact ih
theorem RpE.any {kvs : List (κ × V)} {es : List (κ × D)} (h : RpE K F kvs es) (k : κ) : (kvs.any fun e => decide (e.1 = k)) = es.any fun e => decide (e.1 = k) := by
  induction h with
  | nil => rfl
  | cons r _ ih => rw [List.any_cons, List.any_cons, ih]
theorem RpE.repl {kvs : List (κ × V)} {es : List (κ × D)} (h : RpE K F kvs es) (k : κ) {v : V} {d : D} (r : Rp K F v d) : RpE K F (kvs.map fun kv => if kv.1 = k then (kv.1, v) else kv) (es.map fun e => if e.1 = k then (e.1, d) else e) := by
  induction h with
  | nil => exact .nil
  | @cons j v0 d0 kvs es r0 _ ih =>
    rw [List.map_cons, List.map_cons]
    by_cases e : j = k
    · rw [if_pos e, if_pos e]; exact .cons r ih
    · rw [if_neg e, if_neg e]; exact .cons r0 ih
theorem RpE.pt {kvs : List (κ × V)} {es : List (κ × D)} (h : RpE K F kvs es) (k : κ) {v : V} {d : D} (r : Rp K F v d) : RpE K F (putK kvs k v) (G.pt es k d) := by
  unfold putK G.pt
  rw [h.any k]
  split
  · exact h.repl k r
  · exact h.append (.cons r .nil)
end
theorem RpE.mono {κ : Type} {kvs : List (κ × V)} {es : List (κ × D)} (e : Same F F') (h : RpE K F kvs es) : RpE K F' kvs es := by
  induction h with
  | nil => exact .nil
  | cons r _ ih => exact .cons (r.mono e) ih
def isDic : D → Bool
  | .dicT _ _ => true
  | .dicK _ _ => true
  | _ => false
def dGetO (x k : D) : Option (Option D) := match x with
  | .dicT _ es => (kTof k).map (lk es)
  | .dicK _ es => (kOf k).map (lk es)
  | _ => none
theorem rd_frz {z : Bool} {o : Obj} {a : Addr} {u : HO} (h : H a = some (frzIf z o u)) : Rd H a u := by
  cases z
  · exact .inl h
  · exact .inr ⟨o, h⟩
theorem dic_ra {v : V} {x : D} (e : Same F H) (r : Ra K F H v x) (h : isDic x = true) : ∃ a, v = .ref a ∧ IsD H a ∧
    ((∃ z kvs es, x = .dicT z es ∧ Rd H a (.dT kvs) ∧ RpE K F kvs es) ∨ ∃ z kvs es, x = .dicK z es ∧ Rd H a (.dK kvs) ∧ RpE K F kvs es) := by
  cases r with
  | val rp _ =>
    cases rp with
    | dicK hf hk hr =>
      have := rd_frz (e _ _ hf)
      exact ⟨_, rfl, .inl ⟨_, this⟩, .inr ⟨_, _, _, rfl, this, RpE.of hk hr⟩⟩
    | dicT hf hk hr =>
      have := rd_frz (e _ _ hf)
      exact ⟨_, rfl, .inr ⟨_, this⟩, .inl ⟨_, _, _, rfl, this, RpE.of hk hr⟩⟩
    | non => cases h
    | bl _ => cases h
    | int _ => cases h
    | str _ => cases h
    | ty _ => cases h
    | tup _ _ => cases h
    | lst _ _ => cases h
    | fix _ _ => cases h
    | dicN _ _ _ _ => cases h
    | exn _ _ => cases h
    | inst _ _ _ _ => cases h
    | _ => cases h
  | own h1 h2 ro =>
    cases ro with
    | lst _ => cases h
    | dicK hk hr =>
      have := rd_frz h2
      exact ⟨_, rfl, .inl ⟨_, this⟩, .inr ⟨_, _, _, rfl, this, RpE.of hk hr⟩⟩
    | dicT hk hr =>
      have := rd_frz h2
      exact ⟨_, rfl, .inr ⟨_, this⟩, .inl ⟨_, _, _, rfl, this, RpE.of hk hr⟩⟩
    | dicN _ _ _ => cases h
    | ins _ _ _ => cases h
    | _ => cases h
theorem dget_ra {a : Addr} {w : V} {x k : D} {r : Option D} (e : Same F H) (rx : Ra K F H (.ref a) x) (rw' : Rp K F w k) (h : dGetO x k = some r) : ∃ o, DGet H a w o ∧ RO K F o r := by
  unfold dGetO at h
  split at h
  · rename_i z es
    cases q : kTof k with
    | none => rw [q] at h; cases h
    | some ks =>
      rw [q] at h
      cases h
      obtain ⟨b, rfl, hb⟩ := kTof_rp rw' q
      obtain ⟨a', ea, _, hh⟩ := dic_ra e rx rfl
      cases ea
      rcases hh with ⟨z', kvs, es', ex, hr, he⟩ | ⟨z', kvs, es', ex, hr, he⟩
      · cases ex
        exact ⟨_, .inr ⟨kvs, ks, b, hr, rfl, e _ _ hb, rfl⟩, he.lk ks⟩
      · cases ex
  · rename_i z es
    cases q : kOf k with
    | none => rw [q] at h; cases h
    | some ks =>
      rw [q] at h
      cases h
      have := kOf_rp rw' q
      subst this
      obtain ⟨a', ea, _, hh⟩ := dic_ra e rx rfl
      cases ea
      rcases hh with ⟨z', kvs, es', ex, hr, he⟩ | ⟨z', kvs, es', ex, hr, he⟩
      · cases ex
      · cases ex
        exact ⟨_, .inl ⟨kvs, ks, hr, rfl, rfl⟩, he.lk ks⟩
  · cases h
theorem ra_of_rp {v : V} {x : D} (r : Rp K F v x) (h : isDic x = true) : Ra K F H v x := .val r (by cases x <;> first | rfl | cases h)
theorem RO.getD {o : Option V} {r : Option D} {v : V} {d : D} (h : RO K F o r) (rv : Rp K F v d) : Rp K F (o.getD v) (r.getD d) := by
  cases o <;> cases r <;> first | exact h | exact rv | exact h.elim
end
section
variable {X : Cx} {E : EW} {fr : Bool} {pos : Pos}
theorem xn_dnewT : PE X (.Dict [] [] pos) (lN X.K E (xC (.dicT false []))) := pe_imp pe_dnewT fun σ H Q h => by
  obtain ⟨F, ρ, r, p⟩ := h
  unfold Pend xC at p
  intro q hq
  exact p F _ ((Gr.newO r.ex hq).go r) q (.dT []) (r.ex.free hq) upd_same (Ro.dicT (z := false) (o := { cls := .none, data := .fields #[] }) rfl .nil) (not_own_new r hq) (.inr hq)
def inX (x y : D) : Option Bool := match y with
  | .dicT z es => (dGetO (.dicT z es) x).map (·.isSome)
  | .dicK z es => (dGetO (.dicK z es) x).map (·.isSome)
  | .tup ds => match dInT x (.tup ds) with
    | some (.bl b) => some b
    | _ => none
  | y => inD x y
def dInX (x y : D) : Option D := (inX x y).map .bl
def dNotInX (x y : D) : Option D := (inX x y).map fun b => .bl (!b)
def rInX (K : PySem.W.Frag) : R2 := fun x y H Q => rInA K x y H Q ∨ ∃ a o, y = .ref a ∧ DGet H a x o ∧ Q (.bl o.isSome) H
def rNotInX (K : PySem.W.Frag) : R2 := fun x y H Q => rNotInA K x y H Q ∨ ∃ a o, y = .ref a ∧ DGet H a x o ∧ Q (.bl (!o.isSome)) H
theorem op_inX (hu : X.A.units + 65 < cLine) : OpR X (compareOp .In) (rInX X.K) := by
  intro pins s σ H x y v u Q I rx ry h
  rcases h with h | ⟨a, o, rfl, g, q⟩
  · exact op_inA hu pins s σ H x y v u Q I rx ry h
  · cases (show u = Value.ref a from ry)
    exact d_in (by omega) I g rx fun s3 I3 => ⟨.bl o.isSome, H, I3, rfl, q⟩
theorem op_notInX (hu : X.A.units + 65 < cLine) : OpR X (compareOp .NotIn) (rNotInX X.K) := by
  intro pins s σ H x y v u Q I rx ry h
  rcases h with h | ⟨a, o, rfl, g, q⟩
  · exact op_notInA hu pins s σ H x y v u Q I rx ry h
  · cases (show u = Value.ref a from ry)
    exact d_notIn (by omega) I g rx fun s3 I3 => ⟨.bl (!o.isSome), H, I3, rfl, q⟩
theorem RO.some_eq {K : PySem.W.Frag} {F : Hp} {o : Option V} {r : Option D} (h : RO K F o r) : o.isSome = r.isSome := by
  cases o <;> cases r <;> first | rfl | exact h.elim
theorem inX_cases {K : PySem.W.Frag} {F H : Hp} {v w : V} {x y : D} {b : Bool} (ex : Same F H) (rv : Rp K F v x) (rw' : Rp K F w y) (h : inX x y = some b) :
    (∃ a o, w = .ref a ∧ DGet H a v o ∧ b = o.isSome) ∨ (∃ ds, y = .tup ds ∧ dInT x (.tup ds) = some (.bl b)) ∨ inD x y = some b := by
  have dic : ∀ {y : D}, isDic y = true → Rp K F w y → (dGetO y x).map (·.isSome) = some b → ∃ a o, w = .ref a ∧ DGet H a v o ∧ b = o.isSome := fun {y} hd ry h => by
    cases q : dGetO y x with
    | none => rw [q] at h; cases h
    | some r =>
      rw [q] at h
      cases h
      obtain ⟨a, rfl, _, _⟩ := dic_ra ex (ra_of_rp (H := H) ry hd) hd
      obtain ⟨o, dg, ro⟩ := dget_ra ex (ra_of_rp (H := H) ry hd) rv q
      exact ⟨a, o, rfl, dg, ro.some_eq.symm⟩
  unfold inX at h
  split at h
  · exact .inl (dic rfl rw' h)
  · exact .inl (dic rfl rw' h)
  · split at h
    · rename_i e
      cases h
      exact .inr (.inl ⟨_, rfl, e⟩)
    · cases h
  · exact .inr (.inr h)
theorem imp_inX {K : PySem.W.Frag} : Imp2 K dInX (rInX K) := fun F H v w x y d Q ex rv rw' e o => by
  unfold dInX at e
  cases q : inX x y with
  | none => rw [q] at e; cases e
  | some b =>
    rw [q] at e
    cases e
    rcases inX_cases ex rv rw' q with ⟨a, ov, rfl, g, eb⟩ | ⟨ds, rfl, h⟩ | h
    · exact .inr ⟨a, ov, rfl, g, by rw [← eb]; exact o.here ex (.bl _)⟩
    · exact .inl (.inr (imp_inT F H v w x (.tup ds) (.bl b) Q ex rv rw' h o))
    · exact .inl (.inl (imp_in F H v w x y (.bl b) Q ex rv rw' (by unfold dIn; rw [h]; rfl) o))
theorem imp_notInX {K : PySem.W.Frag} : Imp2 K dNotInX (rNotInX K) := fun F H v w x y d Q ex rv rw' e o => by
  unfold dNotInX at e
  cases q : inX x y with
  | none => rw [q] at e; cases e
  | some b =>
    rw [q] at e
    cases e
    rcases inX_cases ex rv rw' q with ⟨a, ov, rfl, g, eb⟩ | ⟨ds, rfl, h⟩ | h
    · exact .inr ⟨a, ov, rfl, g, by rw [← eb]; exact o.here ex (.bl _)⟩
    · refine .inl (.inr ?_)
      unfold dInT dItT at h
      simp only [Option.bind_some] at h
      split at h
      · rename_i hf
        injection h with h
        injection h with h
        cases rw' with
        | tup hh ra =>
          obtain ⟨e1, f1⟩ := vOf_is rv hf.1
          obtain ⟨e2, f2⟩ := vOf_all ra hf.2
          subst e1 e2
          exact ⟨_, _, rfl, .inr (SqT.of (ex _ _ hh)), f1, f2, by rw [if_pos rfl, h]; exact o.here ex (.bl _)⟩
      · cases h
    · exact .inl (.inl (imp_notIn F H v w x y (.bl (!b)) Q ex rv rw' (by unfold dNotIn; rw [h]; rfl) o))
end
end G


set_option maxHeartbeats 4000000
namespace G
open PySem PySem.Spec PyProof.Rows L2

section
variable {X : Cx} {E : EW} {fr : Bool} {pos : Pos}
end
end G


set_option maxHeartbeats 4000000
namespace G
open PySem PySem.Spec PyProof.Rows L2

section
variable {κ α : Type} [DecidableEq κ]
def lkA (l : List (κ × α)) (k : κ) : Option α := (l.find? fun e => decide (e.1 = k)).map (·.2)
def ptA (l : List (κ × α)) (k : κ) (v : α) : List (κ × α) :=
  if (l.any fun e => decide (e.1 = k)) = true then l.map (fun e => if e.1 = k then (e.1, v) else e) else l ++ [(k, v)]
theorem lkA_nil (k : κ) : lkA ([] : List (κ × α)) k = none := rfl
theorem lkA_cons (j : κ) (v : α) (l : List (κ × α)) (k : κ) : lkA ((j, v) :: l) k = if j = k then some v else lkA l k := by
  unfold lkA
  by_cases e : j = k
  · rw [List.find?_cons_of_pos (by simpa using e), if_pos e]; rfl
  · rw [List.find?_cons_of_neg (by simpa using e), if_neg e]
theorem lkA_any (l : List (κ × α)) (k : κ) : (l.any fun e => decide (e.1 = k)) = (lkA l k).isSome := by
  induction l with
  | nil => rfl
  | cons p l ih =>
    obtain ⟨j, v⟩ := p
    rw [List.any_cons, lkA_cons, ih]
    by_cases e : j = k
    · simp [e]
    · simp [e]
theorem lkA_app (l m : List (κ × α)) (k : κ) : lkA (l ++ m) k = (lkA l k).or (lkA m k) := by
  induction l with
  | nil => simp [lkA_nil]
  | cons p l ih =>
    obtain ⟨j, v⟩ := p
    rw [List.cons_append, lkA_cons, lkA_cons, ih]
    by_cases e : j = k
    · rw [if_pos e, if_pos e]; rfl
    · rw [if_neg e, if_neg e]
theorem lkA_repl (l : List (κ × α)) (k : κ) (v : α) (j : κ) : lkA (l.map fun e => if e.1 = k then (e.1, v) else e) j = if j = k then (lkA l k).map (fun _ => v) else lkA l j := by
  induction l with
  | nil => by_cases e : j = k <;> simp [lkA_nil, e]
  | cons p l ih =>
    obtain ⟨i, u⟩ := p
    rw [List.map_cons]
    by_cases e : i = k
    · subst e
      rw [if_pos rfl, lkA_cons, lkA_cons, lkA_cons, ih]
      by_cases e2 : j = i
      · subst e2; simp
      · rw [if_neg (fun z => e2 z.symm), if_neg e2, if_neg e2, if_neg (fun z => e2 z.symm)]
    · rw [if_neg e, lkA_cons, lkA_cons, lkA_cons, ih]
      by_cases e2 : i = j
      · subst e2
        rw [if_pos rfl, if_neg e, if_pos rfl]
      · rw [if_neg e2, if_neg e2, if_neg e]
theorem lkA_pt (l : List (κ × α)) (k : κ) (v : α) (j : κ) : lkA (ptA l k v) j = if j = k then some v else lkA l j := by
  unfold ptA
  rw [lkA_any]
  cases h : lkA l k with
  | some u =>
    rw [if_pos (show (some u).isSome = true from rfl), lkA_repl, h]
    rfl
  | none =>
    rw [if_neg (show ¬ (none : Option α).isSome = true from fun z => nomatch z), lkA_app, lkA_cons, lkA_nil]
    by_cases e : j = k
    · subst e
      simp [h]
    · rw [if_neg e, if_neg (fun z => e z.symm)]
      cases lkA l j <;> rfl
theorem ptA_len (l : List (κ × α)) (k : κ) (v : α) : (ptA l k v).length ≤ l.length + 1 := by
  unfold ptA
  split
  · rw [List.length_map]; omega
  · rw [List.length_append]; exact Nat.le_refl _
theorem ptA_keys (l : List (κ × α)) (k : κ) (v : α) (j : κ) : j ∈ (ptA l k v).map (·.1) ↔ j = k ∨ j ∈ l.map (·.1) := by
  have key : ∀ (m : List (κ × α)), j ∈ m.map (·.1) ↔ (lkA m j).isSome = true := fun m => by
    rw [← lkA_any, List.any_eq_true]
    simp only [List.mem_map, decide_eq_true_eq]
  rw [key, key, lkA_pt]
  by_cases e : j = k
  · simp [e]
  · simp [e]
end
def ck (p : Int × Int) : List Key := [.inl p.1, .inl p.2]
section
variable {α β : Type} (ρ ρ1 : Rho) (i : Nat) (ta tb : XV)
theorem zgq (z : Bool) (es : List (List Key × D)) (a b : Int) : dGetO (.dicT z es) (.tup [.int a, .int b]) = some (lk es (ck (a, b))) := rfl
theorem zgr (z : Bool) (es : List (Key × D)) (a : Int) : dGetO (.dicK z es) (.int a) = some (lk es (.inl a)) := rfl
theorem zgC (z : Bool) (es : List (List Key × D)) (a b : Int) : dInX (.tup [.int a, .int b]) (.dicT z es) = some (.bl (lk es (ck (a, b))).isSome) := rfl
theorem zgD (z : Bool) (es : List (List Key × D)) (a b : Int) : dNotInX (.tup [.int a, .int b]) (.dicT z es) = some (.bl (!(lk es (ck (a, b))).isSome)) := rfl
theorem zgE (x : D) (ds : List D) : dInX x (.lst ds) = (inD x (.lst ds)).map .bl := rfl
theorem zgF (x : D) (ds : List D) : dNotInX x (.lst ds) = (inD x (.lst ds)).map fun b => .bl (!b) := rfl
theorem zgG (z : Bool) (es : List (List Key × D)) (a b : Int) : inX (.tup [.int a, .int b]) (.dicT z es) = some (lk es (ck (a, b))).isSome := rfl
theorem zgH (x : D) (ds : List D) : inX x (.lst ds) = inD x (.lst ds) := rfl
theorem zgI (x y : D) : dBl dInX x y = inX x y := by unfold dBl dInX; cases inX x y <;> rfl
theorem zgJ (x y : D) : dBl dNotInX x y = (inX x y).map (!·) := by unfold dBl dNotInX; cases inX x y <;> rfl
theorem zhi (a b c : D) : lk [((.inl 4 : Key), a), (.inl 6, b), (.inl 8, c)] (.inl 4) = some a := rfl
theorem zhj (a b c : D) : lk [((.inl 4 : Key), a), (.inl 6, b), (.inl 8, c)] (.inl 6) = some b := rfl
theorem zhk (a b c : D) : lk [((.inl 4 : Key), a), (.inl 6, b), (.inl 8, c)] (.inl 8) = some c := rfl
end
theorem zhn (n : Int) (ns : List Int) : dInX (.int n) (.tup (ns.map D.int)) = some (.bl (decide (n ∈ ns))) := by
  unfold dInX inX
  simp only
  rw [zfa]
  rfl
theorem zho (n : Int) (ns : List Int) : dNotInX (.int n) (.tup (ns.map D.int)) = some (.bl (!decide (n ∈ ns))) := by
  unfold dNotInX inX
  simp only
  rw [zfa]
  rfl
end G


set_option maxHeartbeats 4000000
namespace G
open PySem PySem.Spec PyProof.Rows L2

def upN (n : Nat) : List Int := (List.range n).map fun i => ((i : Nat) : Int)
theorem upN_len (n : Nat) : (upN n).length = n := by unfold upN; rw [List.length_map, List.length_range]
theorem mem_upN {n : Nat} {x : Int} : x ∈ upN n ↔ 0 ≤ x ∧ x < n := by
  unfold upN
  rw [List.mem_map]
  constructor
  · rintro ⟨i, hi, rfl⟩
    have := List.mem_range.mp hi
    omega
  · rintro ⟨h1, h2⟩
    exact ⟨x.toNat, List.mem_range.mpr (by omega), by omega⟩
theorem upN_lt (n : Nat) : (upN n).Pairwise (· < ·) := by
  unfold upN
  exact List.pairwise_map.mpr (List.Pairwise.imp (fun {a b} (h : a < b) => by omega) List.pairwise_lt_range)
end G


set_option maxHeartbeats 4000000
namespace G
open PySem PySem.Spec PyProof.Rows L2

theorem szBl {n : Nat} (h : n ≤ 20000) : n < sizeLine := Nat.lt_of_le_of_lt h (by rw [sizeLine_eq]; decide)
def rowL (h : Nat) (x : Int) : List (Int × Int) := (upN h).map fun y => (x, y)
def ringL (w h : Nat) : List (Int × Int) := (upN w).flatMap (rowL h)
theorem rowL_len (h : Nat) (x : Int) : (rowL h x).length = h := by unfold rowL; rw [List.length_map, upN_len]
theorem flat_len {α β : Type} (f : α → List β) (n : Nat) (l : List α) (hf : ∀ a, (f a).length = n) : (l.flatMap f).length = l.length * n := by
  induction l with
  | nil => simp
  | cons a l ih => rw [List.flatMap_cons, List.length_append, ih, hf, List.length_cons, Nat.succ_mul]; omega
theorem ringL_len (w h : Nat) : (ringL w h).length = w * h := by unfold ringL; rw [flat_len _ h _ (rowL_len h), upN_len]
theorem mem_ringL {w h : Nat} {p : Int × Int} : p ∈ ringL w h ↔ (0 ≤ p.1 ∧ p.1 < w) ∧ 0 ≤ p.2 ∧ p.2 < h := by
  unfold ringL rowL
  rw [List.mem_flatMap]
  constructor
  · rintro ⟨x, hx, hp⟩
    obtain ⟨y, hy, rfl⟩ := List.mem_map.mp hp
    exact ⟨mem_upN.mp hx, mem_upN.mp hy⟩
  · rintro ⟨hx, hy⟩
    exact ⟨p.1, mem_upN.mpr hx, List.mem_map.mpr ⟨p.2, mem_upN.mpr hy, rfl⟩⟩
theorem ringL_lt (w h : Nat) : (ringL w h).Pairwise fun p q => p.1 < q.1 ∨ p.1 = q.1 ∧ p.2 < q.2 := by
  unfold ringL rowL
  rw [List.pairwise_flatMap]
  refine ⟨fun x _ => List.pairwise_map.mpr ((upN_lt h).imp fun z => .inr ⟨rfl, z⟩), (upN_lt w).imp fun {a b} z p hp q hq => ?_⟩
  obtain ⟨_, _, rfl⟩ := List.mem_map.mp hp
  obtain ⟨_, _, rfl⟩ := List.mem_map.mp hq
  exact .inl z
theorem sort_lt {l : List (Int × Int)} (h : l.Pairwise fun p q => p.1 < q.1 ∨ p.1 = q.1 ∧ p.2 < q.2) : sortE l = l :=
  sortE_of_pw (h.imp fun {p q} z => by rw [leE_pair, decide_eq_true_eq]; omega)
/-- where a step leads on the ring -/
def onR (w h : Nat) (p : Int × Int) : Int × Int := (p.1 % w, p.2 % h)
/-- the steps of a kind, as the laws tell them -/
def S4 : List (Int × Int) := [(0, -1), (0, 1), (-1, 0), (1, 0)]
def imgs (w h : Nat) (k : Int) (live : List (Int × Int)) : List (Int × Int) := live.flatMap fun p => (near k).map fun d => onR w h (sh d p)
def cntT (l : List (Int × Int)) : List ((Int × Int) × Int) := l.foldl (fun T c => ptA T c ((lkA T c).getD 0 + 1)) []
end G


set_option maxHeartbeats 4000000
namespace G
open PySem PySem.Spec PyProof.Rows L2

/-- a picture on the ring, its cells in their order -/
def OnRing (w h : Nat) (l : List (Int × Int)) : Prop := (l.Pairwise fun p q => p.1 < q.1 ∨ p.1 = q.1 ∧ p.2 < q.2) ∧ ∀ p ∈ l, p ∈ ringL w h
theorem OnRing.nodup {w h : Nat} {l : List (Int × Int)} (H : OnRing w h l) : l.Nodup := H.1.imp fun {p q} z e => by subst e; omega
theorem OnRing.sort {w h : Nat} {l : List (Int × Int)} (H : OnRing w h l) : sortE l = l := sort_lt H.1
theorem OnRing.sub {w h : Nat} {l m : List (Int × Int)} (H : OnRing w h l) (s : m.Sublist l) : OnRing w h m := ⟨H.1.sublist s, fun p hp => H.2 p (s.subset hp)⟩
theorem OnRing.ring (w h : Nat) : OnRing w h (ringL w h) := ⟨ringL_lt w h, fun _ z => z⟩
theorem nodup_len {l m : List (Int × Int)} (hl : l.Nodup) (h : ∀ p ∈ l, p ∈ m) : l.length ≤ m.length := by
  induction l generalizing m with
  | nil => exact Nat.zero_le _
  | cons a l ih =>
    have ha := h a (by simp)
    obtain ⟨h1, h2⟩ := List.nodup_cons.mp hl
    have := ih h2 (m := m.erase a) fun p hp => (List.mem_erase_of_ne (fun e => h1 (by rw [← e]; exact hp))).mpr (h p (by simp [hp]))
    rw [List.length_erase_of_mem ha] at this
    have hp := List.length_pos_of_mem ha
    rw [List.length_cons]
    omega
theorem OnRing.len {w h : Nat} {l : List (Int × Int)} (H : OnRing w h l) (hw : 3 ≤ w ∧ w ≤ 40) (hh : 3 ≤ h ∧ h ≤ 40) : l.length ≤ 1600 := by
  have h1 := nodup_len H.nodup H.2
  rw [ringL_len] at h1
  have : w * h ≤ 40 * 40 := Nat.mul_le_mul hw.2 hh.2
  omega
end G


set_option maxHeartbeats 4000000
namespace G
open PySem PySem.Spec PyProof.Rows L2

theorem OnRing.ext {w h : Nat} {l m : List (Int × Int)} (hl : OnRing w h l) (hm : OnRing w h m) (e : ∀ p, p ∈ l ↔ p ∈ m) : l = m := by
  have p : l.Perm m := (List.perm_ext_iff_of_nodup hl.nodup hm.nodup).mpr e
  have := sortE_cong p
  rwa [hl.sort, hm.sort] at this
end G


set_option maxHeartbeats 4000000
namespace G
open PySem PySem.Spec PyProof.Rows L2

end G


set_option maxHeartbeats 4000000
namespace G
open PySem PySem.Spec PyProof.Rows L2

section
variable {P : Program} {w : World} {A : Around} {E : Value → Shared → Prop} {s : Shared}
variable {a : Addr} {L : List (Addr × List Int)} {es : Array (Int × Value)} {ep : Nat} {t : SetTable}
end
end G


set_option maxHeartbeats 4000000
namespace G
open PySem PySem.Spec PyProof.Rows L2

section
variable {P : Program} {w : World} {A : Around} {E : Value → Shared → Prop} {s : Shared}
variable {a : Addr} {L : List (Addr × List Int)} {es : Array (Int × Value)} {ep : Nat} {t : SetTable}
end
end G


set_option maxHeartbeats 4000000
namespace G
open PySem PySem.Spec PyProof.Rows L2

section
variable {P : Program} {w : World} {A : Around} {E : Value → Shared → Prop} {s : Shared}
end
end G


set_option maxHeartbeats 4000000
namespace G
open PySem PySem.Spec PyProof.Rows L2

section
variable {P : Program} {w : World} {A : Around} {E : Value → Shared → Prop} {s : Shared}
end
section
variable {X : Cx} {E : EW} {pos : Pos}
end
def ddS (cs : List (Int × Int)) : List (Int × Int) := sortE (dd cs)
def k2 (p : Int × Int) : List Int := [p.1, p.2]
theorem mem_ddS {p : Int × Int} {cs : List (Int × Int)} : p ∈ ddS cs ↔ p ∈ cs := by
  unfold ddS
  rw [mem_sortE, mem_dd]
end G


set_option maxHeartbeats 4000000
namespace G
open PySem PySem.Spec PyProof.Rows L2

def Lt2 (p q : Int × Int) : Prop := p.1 < q.1 ∨ p.1 = q.1 ∧ p.2 < q.2
/-- a picture: its cells in their order, each once -/
def Pic (l : List (Int × Int)) : Prop := l.Pairwise Lt2
theorem Pic.nodup {l : List (Int × Int)} (h : Pic l) : l.Nodup := h.imp fun {p q} z e => by
  subst e
  unfold Lt2 at z
  omega
theorem Pic.sort {l : List (Int × Int)} (h : Pic l) : sortE l = l := sort_lt h
theorem Pic.ext {l m : List (Int × Int)} (hl : Pic l) (hm : Pic m) (e : ∀ p, p ∈ l ↔ p ∈ m) : l = m := by
  have := sortE_cong ((List.perm_ext_iff_of_nodup hl.nodup hm.nodup).mpr e)
  rwa [hl.sort, hm.sort] at this
theorem Pic.sub {l m : List (Int × Int)} (h : Pic l) (s : m.Sublist l) : Pic m := List.Pairwise.sublist s h
def imgsP (k : Int) (live : List (Int × Int)) : List (Int × Int) := live.flatMap fun p => (near k).map fun d => sh d p
def livesP (k : Int) (live : List (Int × Int)) (c : Int × Int) : Nat := live.countP fun p => decide ((c.1 - p.1, c.2 - p.2) ∈ near k)
def cond (k : Int) (bs ss : List Int) (live : List (Int × Int)) (c : Int × Int) : Bool := decide (((livesP k live c : Nat) : Int) ∈ if c ∈ live then ss else bs)
/-- the next turn in the plane -/
def nextP (k : Int) (bs ss : List Int) (live : List (Int × Int)) : List (Int × Int) := (ddS ((cntT (imgsP k live)).map (·.1) ++ live)).filter (cond k bs ss live)
theorem cntT_keys (l : List (Int × Int)) (c : Int × Int) : c ∈ (cntT l).map (·.1) ↔ c ∈ l := by
  unfold cntT
  suffices ∀ (l : List (Int × Int)) (T : List ((Int × Int) × Int)), c ∈ (l.foldl (fun T c => ptA T c ((lkA T c).getD 0 + 1)) T).map (·.1) ↔ c ∈ T.map (·.1) ∨ c ∈ l by
    rw [this]
    simp
  intro l
  induction l with
  | nil => intro T; simp
  | cons a l ih =>
    intro T
    rw [List.foldl_cons, ih, ptA_keys, List.mem_cons]
    constructor
    · rintro ((h | h) | h)
      · exact .inr (.inl h)
      · exact .inl h
      · exact .inr (.inr h)
    · rintro (h | h | h)
      · exact .inl (.inr h)
      · exact .inl (.inl h)
      · exact .inr h
def afterP (k : Int) (bs ss : List Int) (live : List (Int × Int)) : Nat → List (Int × Int)
  | 0 => live
  | n + 1 => nextP k bs ss (afterP k bs ss live n)
def Bx (l t : Int) (w h : Nat) (live : List (Int × Int)) : Prop := ∀ p ∈ live, (l ≤ p.1 ∧ p.1 < l + w) ∧ t ≤ p.2 ∧ p.2 < t + h
theorem Bx.len {l t : Int} {w h : Nat} {live : List (Int × Int)} (b : Bx l t w h live) (hn : live.Nodup) : live.length ≤ w * h := by
  have nd : (live.map (sh (-l, -t))).Nodup := List.pairwise_map.mpr (hn.imp fun {p q} z e => z (by
    unfold sh at e
    injection e with e1 e2
    apply Prod.ext <;> omega))
  have := nodup_len nd (m := ringL w h) fun p hp => by
    obtain ⟨q, hq, rfl⟩ := List.mem_map.mp hp
    obtain ⟨⟨h1, h2⟩, h3, h4⟩ := b q hq
    refine mem_ringL.mpr ⟨⟨?_, ?_⟩, ?_, ?_⟩ <;> (unfold sh; simp only; omega)
  rwa [List.length_map, ringL_len] at this
theorem near_small {k : Int} {d : Int × Int} (h : d ∈ near k) : (-1 ≤ d.1 ∧ d.1 ≤ 1) ∧ -1 ≤ d.2 ∧ d.2 ≤ 1 := by
  have key : ∀ d ∈ N8, (-1 ≤ d.1 ∧ d.1 ≤ 1) ∧ -1 ≤ d.2 ∧ d.2 ≤ 1 := by decide
  have k4 : ∀ d ∈ N4, d ∈ N8 := by decide
  have k6 : ∀ d ∈ N6, d ∈ N8 := by decide
  unfold near at h
  split at h
  · exact key d (k4 d h)
  · exact key d (k6 d h)
  · exact key d h
theorem Bx.imgs {l t : Int} {w h : Nat} {live : List (Int × Int)} (b : Bx l t w h live) (k : Int) : Bx (l - 1) (t - 1) (w + 2) (h + 2) (imgsP k live) := fun c hc => by
  unfold imgsP at hc
  obtain ⟨p, hp, hc⟩ := List.mem_flatMap.mp hc
  obtain ⟨d, hd, rfl⟩ := List.mem_map.mp hc
  obtain ⟨⟨h1, h2⟩, h3, h4⟩ := b p hp
  obtain ⟨⟨g1, g2⟩, g3, g4⟩ := near_small hd
  unfold sh
  simp only
  omega
theorem Bx.next {l t : Int} {w h : Nat} {live : List (Int × Int)} (b : Bx l t w h live) (k : Int) (bs ss : List Int) : Bx (l - 1) (t - 1) (w + 2) (h + 2) (nextP k bs ss live) := fun c hc => by
  have hm := (List.mem_filter.mp hc).1
  rw [mem_ddS, List.mem_append, cntT_keys] at hm
  rcases hm with hm | hm
  · exact b.imgs k c hm
  · obtain ⟨⟨h1, h2⟩, h3, h4⟩ := b c hm
    omega
theorem Bx.after {l t : Int} {w h : Nat} {live : List (Int × Int)} (b : Bx l t w h live) (k : Int) (bs ss : List Int) : ∀ n : Nat, Bx (l - n) (t - n) (w + 2 * n) (h + 2 * n) (afterP k bs ss live n)
  | 0 => by
    intro c hc
    obtain ⟨⟨h1, h2⟩, h3, h4⟩ := b c hc
    omega
  | n + 1 => by
    have := (b.after k bs ss n).next k bs ss
    intro c hc
    obtain ⟨⟨h1, h2⟩, h3, h4⟩ := this c hc
    omega
end G


set_option maxHeartbeats 4000000
namespace G
open PySem PySem.Spec PyProof.Rows L2

end G


set_option maxHeartbeats 4000000
namespace G
open PySem PySem.Spec PyProof.Rows L2

end G


set_option maxHeartbeats 4000000
namespace G
open PySem PySem.Spec PyProof.Rows L2

section
variable {X : Cx} {E : EW} {fr : Bool} {pos : Pos}
end
section
variable {α : Type} (ρ : Rho) (i : Nat) (t : XS) (u : Rho → Res α)
end
end G


set_option maxHeartbeats 4000000
namespace G
open PySem PySem.Spec PyProof.Rows L2

section
variable {X : Cx} {E : EW} {fr : Bool} {pos : Pos}
end
section
variable (ρ : Rho) (ta tb tc : XV)
end
end G


set_option maxHeartbeats 4000000
namespace G
open PySem PySem.Spec PyProof.Rows L2

end G


set_option maxHeartbeats 4000000
namespace G
open PySem PySem.Spec PyProof.Rows L2

section
variable {X : Cx} {E : EW} {fr : Bool} {pos : Pos}
end
section
variable (ρ : Rho) (i : Nat) (t : XV)
end
end G


set_option maxHeartbeats 4000000
namespace G
open PySem PySem.Spec PyProof.Rows L2

end G


set_option maxHeartbeats 4000000
namespace G
open PySem PySem.Spec PyProof.Rows L2

section
variable {g : XG} {body : XS}
/-- the first answer of r at i, i + 1, .. (n of them) -/
def first (r : Nat → Option D) : Nat → Nat → Option D
  | _, 0 => none
  | i, n + 1 => (r i).or (first r (i + 1) n)
end
section
variable {X : Cx} {E : EW}
end
section
variable {i : Nat} {ρ : Rho}
end
end G


set_option maxHeartbeats 4000000
namespace G
open PySem PySem.Spec PyProof.Rows L2

section
variable {P : Program} {w : World} {H : Hp} {h : Heap} {a b : Addr} {kvs : List (NestedKey × Addr × V)} {k : NestedKey}
end
section
variable {X : Cx} {pins : List (Addr × Obj)} {σ : L2.St} {H : Hp} {s : Shared} {a b : Addr} {v : V} {r : Value} {A : Around} {E : Value → Shared → Prop} {kvs : List (NestedKey × Addr × V)} {k : NestedKey}
end
section
variable {X : Cx} {o i e value : Expr} {pos pos' tpos : Pos} {td ty tv : TE}
end
end G


set_option maxHeartbeats 4000000
namespace G
open PySem PySem.Spec PyProof.Rows L2

section
variable {K : PySem.W.Frag} {F F' H H' : Hp}
end
section
variable {X : Cx} {E : EW} {fr : Bool} {pos : Pos}
end
section
variable {α β : Type} {ρ : Rho} {i : Nat} {ta tb : XV}
end
end G


set_option maxHeartbeats 4000000
namespace G
open PySem PySem.Spec PyProof.Rows L2

section
variable {X : Cx} {E : EW} {fr : Bool} {pos : Pos}
end
end G


set_option maxHeartbeats 4000000
namespace G
open PySem PySem.Spec PyProof.Rows L2

section
variable {X : Cx} {E : EW} {pos : Pos}
def xChn (f g : D → D → Option D) (tc : XV) (x y : D) : XV := fun ρ => match f x y with
  | some (.bl true) => (tc ρ).bind (lift (g y))
  | some (.bl false) => .ok (.bl false) ρ
  | _ => .bad
def xChain (f g : D → D → Option D) (ta tb tc : XV) : XV := fun ρ => (ta ρ).bind fun x ρ1 => (tb ρ1).bind fun y ρ2 => xChn f g tc x y ρ2
end
theorem zhZ (f g : D → D → Option D) (ta tb tc : XV) (ρ : Rho) : xChain f g ta tb tc ρ = (ta ρ).bind fun x ρ1 => (tb ρ1).bind fun y ρ2 => xChn f g tc x y ρ2 := rfl
def chnO (o : Option D) (g : D → D → Option D) (tc : XV) (y : D) (ρ : Rho) : Res D := match o with
  | some (.bl true) => (tc ρ).bind (lift (g y))
  | some (.bl false) => .ok (.bl false) ρ
  | _ => .bad
theorem zia (f g : D → D → Option D) (tc : XV) (x y : D) (ρ : Rho) : xChn f g tc x y ρ = chnO (f x y) g tc y ρ := rfl
theorem zib (g : D → D → Option D) (tc : XV) (y : D) (ρ : Rho) : chnO (some (.bl true)) g tc y ρ = (tc ρ).bind (lift (g y)) := rfl
theorem zic (g : D → D → Option D) (tc : XV) (y : D) (ρ : Rho) : chnO (some (.bl false)) g tc y ρ = .ok (.bl false) ρ := rfl
end G


set_option maxHeartbeats 4000000
namespace G
open PySem PySem.Spec PyProof.Rows L2

end G


set_option maxHeartbeats 4000000
namespace G
open PySem PySem.Spec PyProof.Rows L2

section
variable {X : Cx} {cv : String → Value} {pos : Pos} {W : WX}
end
end G


set_option maxHeartbeats 4000000
namespace G
open PySem PySem.Spec PyProof.Rows L2

def popE (es : List (List Key × D)) (k : List Key) : List (List Key × D) := es.filter fun e => decide (e.1 ≠ k)
theorem RpE.drop {K : PySem.W.Frag} {F : Hp} {k : List Key} : ∀ {kvs : List (List Key × V)} {es : List (List Key × D)}, RpE K F kvs es → RpE K F (dropK kvs k) (popE es k) := by
  intro kvs es h
  have hk := h.keys
  have hv := h.vals
  clear h
  induction kvs generalizing es with
  | nil =>
    cases es with
    | nil => exact RpE.of rfl .nil
    | cons _ _ => simp at hk
  | cons p ps ih =>
    cases es with
    | nil => simp at hk
    | cons e es =>
      simp only [List.map_cons, List.cons.injEq] at hk
      cases hv with
      | cons v1 v2 =>
        have r := ih hk.2 v2
        have eD : dropK (p :: ps) k = if p.1 = k then dropK ps k else p :: dropK ps k := by
          unfold dropK
          by_cases z : p.1 = k <;> simp [List.filter_cons, z]
        have eE : popE (e :: es) k = if p.1 = k then popE es k else e :: popE es k := by
          unfold popE
          rw [hk.1]
          by_cases z : e.1 = k <;> simp [List.filter_cons, z]
        rw [eD, eE]
        by_cases z : p.1 = k
        · rw [if_pos z, if_pos z]; exact r
        · rw [if_neg z, if_neg z]
          exact RpE.of (by simp only [List.map_cons, hk.1, r.keys]) (.cons v1 r.vals)
section
variable {X : Cx} {E : EW} {pos : Pos}
end

section
variable {X : Cx} {E : EW}
end
section
variable (ρ : Rho) (i : Nat) (ta tb : XV)
end
end G


set_option maxHeartbeats 4000000
namespace G
open PySem PySem.Spec PyProof.Rows L2

def mB (es : List (Key × D)) (c : Int) : Bool := (lk es (.inl c)).isSome
def Tb (es : List (Key × D)) (S : Int → Prop) (n : Nat) : Prop := (∀ c : Int, mB es c = true ↔ S c) ∧ es.length ≤ n
theorem Tb.nil : Tb [] (fun _ => False) 0 := ⟨fun c => ⟨fun h => (by cases h), fun h => h.elim⟩, Nat.le_refl _⟩
theorem lk_ptK (es : List (Key × D)) (k : Key) (d : D) (j : Key) : lk (pt es k d) j = if j = k then some d else lk es j := lkA_pt es k d j
theorem Tb.pt {es : List (Key × D)} {S : Int → Prop} {n : Nat} (h : Tb es S n) (c : Int) (d : D) : Tb (pt es (.inl c) d) (fun x => S x ∨ x = c) (n + 1) := by
  refine ⟨fun x => ?_, Nat.le_trans (ptA_len es (.inl c) d) (Nat.succ_le_succ h.2)⟩
  unfold mB
  rw [lk_ptK]
  by_cases e : x = c
  · subst e
    rw [if_pos rfl]
    exact ⟨fun _ => .inr rfl, fun _ => rfl⟩
  · rw [if_neg (fun z => e (by cases z; rfl))]
    rw [show ((lk es (.inl x)).isSome = true ↔ S x) from h.1 x]
    exact ⟨.inl, fun z => z.elim id fun z => absurd z e⟩
theorem Tb.mono {es : List (Key × D)} {S T : Int → Prop} {n m : Nat} (h : Tb es S n) (hS : ∀ c, S c ↔ T c) (hn : n ≤ m) : Tb es T m := ⟨fun c => (h.1 c).trans (hS c), Nat.le_trans h.2 hn⟩
end G


set_option maxHeartbeats 4000000
namespace G
open PySem PySem.Spec PyProof.Rows L2

theorem atI_at {α : Type} (f : α → D) {l : List α} {i : Nat} {c : α} (h : l[i]? = some c) : atI (l.map f) (i : Int) = some (f c) := atI_nat (by rw [List.getElem?_map, h]; rfl)
end G


set_option maxHeartbeats 4000000
namespace G
open PySem PySem.Spec PyProof.Rows L2

section
variable {X : Cx} {E : EW}
end
end G


set_option maxHeartbeats 4000000
namespace G
open PySem PySem.Spec PyProof.Rows L2

section
variable {K : PySem.W.Frag} {F H : Hp} {ρ : Rho} {σ : L2.St}
/-- where nothing is owned all that is known stays -/
theorem Go.stays {ρ' : Rho} {σ' : L2.St} {F' H' : Hp} (r : Rel K F H ρ σ) (no : ∀ p, ¬ Own ρ σ p) (g : Go K ρ σ F H ρ' σ' F' H') : Same H H' := fun a o h => g.sameH r h (no a)
end
def retOnly : Fl → Fl
  | .ret d ρ => .ret d ρ
  | _ => .bad
section
variable {X : Cx} {E : EW} {fr : Bool} {pos pos2 : Pos}
end
section
variable (ρ : Rho) (h j : Nat) (ti : XA) (tt : XT) (tb : XS)
end
end G


set_option maxHeartbeats 4000000
namespace G
open PySem PySem.Spec PyProof.Rows L2

section
variable {P : Program} {w : World} {A : Around} {E : Value → Shared → Prop} {s : Shared}
end
section
variable {X : Cx} {E : EW} {pos : Pos}
end
section
variable (ρ : Rho) (i : Nat)
end
end G


set_option maxHeartbeats 4000000
namespace G
open PySem PySem.Spec PyProof.Rows L2

section
variable {K : PySem.W.Frag} {F H : Hp} {ρ : Rho} {σ : L2.St}
theorem Ro.rp {p : Addr} {o : HO} {d : D} (f : F p = none) (r : Ro K F p o d) : Rp K (upd F p o) (.ref p) d := ro_rp f r
end
def jT (i j : Nat) (tb : XS) (m : D → Bool) (ρ1 : Rho) (d : D) : Res Bool → Fl
  | .ok false _ => if (m d && decide (i < ρ1.length ∧ j < ρ1.length)) = true then .nx ((ρ1.set i .emp).set j .emp) else .bad
  | .ok true _ => retOnly (tb (ρ1.set i .emp))
  | _ => .bad
section
variable {X : Cx} {cv : String → Value} {pos pos2 : Pos} {W : WX} {fr : Bool}
end
section
variable {K : PySem.W.Frag} {E : EW}
end
section
variable (ρ : Rho) (i j : Nat) (md : List Bool) (g : DF) (t : XA) (tt : XT) (tb : XS) (m : D → Bool)
theorem jT_f {d : D} (ρ2 : Rho) (h : (m d && decide (i < ρ.length ∧ j < ρ.length)) = true) : jT i j tb m ρ d (.ok false ρ2) = .nx ((ρ.set i .emp).set j .emp) := if_pos h
theorem jT_t (d : D) (ρ2 : Rho) : jT i j tb m ρ d (.ok true ρ2) = retOnly (tb (ρ.set i .emp)) := rfl
end
end G


set_option maxHeartbeats 4000000
namespace G
open PySem PySem.Spec PyProof.Rows L2

end G


set_option maxHeartbeats 4000000
namespace G
open PySem PySem.Spec PyProof.Rows L2

section
variable {K : PySem.W.Frag} {F H F1 H1 H2 : Hp} {ρ ρ1 : Rho} {σ σ1 : L2.St}
end
section
variable {K : PySem.W.Frag} {E : EW} {fr : Bool}
end
section
variable {X : Cx} {E : EW} {fr : Bool} {pos pos2 : Pos}
end
section
variable (ρ : Rho) (i j : Nat) (te t1 t2 : XV) (ts : XS) (tt : XT) (tb : XS) (m : D → Bool)
end
end G


set_option maxHeartbeats 4000000
namespace G
open PySem PySem.Spec PyProof.Rows L2

section
variable {K : PySem.W.Frag} {E : EW}
/-- where the loop stands: the two lists at a0, a1, the tuple at p -/
structure T2 (K : PySem.W.Frag) (ρ0 : Rho) (σ0 : L2.St) (F0 H0 : Hp) (i : Nat) (p a0 a1 : Addr) (A B : List D) (ρ : Rho) (σ : L2.St) (F H : Hp) : Prop where
  go : Go K ρ0 σ0 F0 H0 (ρ.set i (.adr p)) σ F H
  n0 : H0 a0 = none
  n1 : H0 a1 = none
  ne : a0 ≠ a1
  hp : H p = some (.tup [.ref a0, .ref a1])
  op : ¬ Own (ρ.set i (.adr p)) σ p
  h0 : ∃ xs, H a0 = some (.lst xs) ∧ RpAll K F xs A
  f0 : F a0 = none
  o0 : ¬ Own (ρ.set i (.adr p)) σ a0
  h1 : ∃ xs, H a1 = some (.lst xs) ∧ RpAll K F xs B
  f1 : F a1 = none
  o1 : ¬ Own (ρ.set i (.adr p)) σ a1
  len : i < ρ.length
  i0 : i ≠ 0
variable {ρ0 ρ ρ1 : Rho} {σ0 σ σ1 : L2.St} {F0 H0 F H F1 H1 : Hp} {i : Nat} {p a0 a1 : Addr} {A B : List D}
theorem T2.slot (t : T2 K ρ0 σ0 F0 H0 i p a0 a1 A B ρ σ F H) : σ[i]? = some (some (.ref p)) := by
  have hl := t.go.rel.len
  rw [List.length_set] at hl
  have hl2 : i < σ.length := by have := t.len; omega
  have hs := List.getElem?_eq_getElem hl2
  have z := t.go.rel.at' i (.adr p) _ (List.getElem?_set_self t.len) hs
  rw [hs]
  generalize σ[i] = o at z ⊢
  cases z
  rfl
theorem own_back2 (r : Rel K F H ρ σ) (g : Go K ρ σ F H ρ1 σ1 F1 H1) {a : Addr} {o : HO} (h : H a = some o) (n : ¬ Own ρ σ a) : ¬ Own ρ1 σ1 a := fun z => by
  rcases g.own a z with z | z
  · exact n z
  · rw [h] at z; cases z
/-- an ordinary step with X in its place -/
theorem T2.step (t : T2 K ρ0 σ0 F0 H0 i p a0 a1 A B ρ σ F H) (r0 : Rel K F0 H0 ρ0 σ0) (hl : i < ρ1.length) (g : Go K (ρ.set i (.adr p)) σ F H (ρ1.set i (.adr p)) σ1 F1 H1) : T2 K ρ0 σ0 F0 H0 i p a0 a1 A B ρ1 σ1 F1 H1 := by
  have r := t.go.rel
  obtain ⟨xs, x1, x2⟩ := t.h0
  obtain ⟨ys, y1, y2⟩ := t.h1
  obtain ⟨k1, k2⟩ := g.keep a0 _ x1 t.f0 t.o0
  obtain ⟨l1, l2⟩ := g.keep a1 _ y1 t.f1 t.o1
  exact ⟨t.go.trans r0 g, t.n0, t.n1, t.ne, g.sameH r t.hp t.op, own_back2 r g t.hp t.op, ⟨xs, k1, x2.mono g.ex⟩, k2 nt_lst, own_back2 r g x1 t.o0, ⟨ys, l1, y2.mono g.ex⟩, l2 nt_lst, own_back2 r g y1 t.o1, hl, t.i0⟩
theorem Rel.noslot (r : Rel K F H (ρ.set i (.adr p)) σ) (h0 : i ≠ 0) (hs : σ[i]? = some (some (.ref p))) : Go K (ρ.set i (.adr p)) σ F H (ρ.set i .emp) σ F H := by
  have g := Go.setSlot (i := i) (s := .emp) (o := some (.ref p)) h0 (fun _ z => by cases z) (fun _ z => by cases z) r .emp
  rw [List.set_set] at g
  have e : σ.set i (some (.ref p)) = σ := by
    obtain ⟨hi, q⟩ := List.getElem?_eq_some_iff.mp hs
    rw [← q]
    exact List.set_getElem_self hi
  rw [e] at g
  exact g
theorem Rel.slotAt (r : Rel K F H ρ σ) (h0 : i ≠ 0) (hs : σ[i]? = some (some (.ref p))) : Go K ρ σ F H (ρ.set i (.adr p)) σ F H := by
  have g := Go.setSlot (i := i) (s := .adr p) (o := some (.ref p)) h0 (fun _ z => by cases z) (fun _ z => by cases z) r .adr
  have e : σ.set i (some (.ref p)) = σ := by
    obtain ⟨hi, q⟩ := List.getElem?_eq_some_iff.mp hs
    rw [← q]
    exact List.set_getElem_self hi
  rw [e] at g
  exact g
theorem T2.view (t : T2 K ρ0 σ0 F0 H0 i p a0 a1 A B ρ σ F H) (he : ρ[i]? = some .emp) : Go K (ρ.set i (.adr p)) σ F H ρ σ F H := by
  have g := t.go.rel.noslot t.i0 t.slot
  have e : ρ.set i .emp = ρ := by
    obtain ⟨hi, q⟩ := List.getElem?_eq_some_iff.mp he
    rw [← q]
    exact List.set_getElem_self hi
  rw [e] at g
  exact g
/-- expressions leave all as it was -/
theorem T2.after (t : T2 K ρ0 σ0 F0 H0 i p a0 a1 A B ρ σ F H) (r0 : Rel K F0 H0 ρ0 σ0) (he : ρ[i]? = some .emp) (g : Go K ρ σ F H ρ1 σ F1 H1) : T2 K ρ0 σ0 F0 H0 i p a0 a1 A B ρ1 σ F1 H1 := by
  have g2 := ((t.view he).trans t.go.rel g).trans t.go.rel (g.rel.slotAt t.i0 t.slot)
  refine t.step r0 ?_ g2
  have h1 := g.rel.len
  have h2 := t.go.rel.len
  rw [List.length_set] at h2
  have := t.len
  omega
end
section
variable {X : Cx} {E : EW} {pos : Pos}
end
section
variable (ρ : Rho) (i j : Nat) (te : XV) (ts : XS) (c1 c2 : XT) (e1 e0 : XV)
end
end G


set_option maxHeartbeats 4000000
namespace G
open PySem PySem.Spec PyProof.Rows L2

section
variable {K : PySem.W.Frag} {E : EW} {fr : Bool}
end
section
variable {K : PySem.W.Frag} {E : EW}
end
section
variable {X : Cx} {cv : String → Value} {pos pos2 pos3 : Pos} {W : WX} {fr : Bool}
end
end G


set_option maxHeartbeats 4000000
namespace G
open PySem PySem.Spec PyProof.Rows L2

section
variable {X : Cx} {pins : List (Addr × Obj)} {σ : L2.St} {H : Hp} {s : Shared}
/-- the exception that landed at a is tracked: the state of its suite -/
theorem inv_track {a C : Addr} {oe : Obj} {vs : Array Value} {B : Heap} {sI : Shared}  (hex : X.ex = []) (hfr : frs X.stack = X.env.locals :: X.fs) (I : Inv X pins σ H s) (I0 : Inv X pins σ H sI) (nb : ∀ b o, sI.heap.get? b = some o → b ∉ frs X.stack → B.get? b = some o) (hB : B.get? a = none)
    (he : s.heap.get? a = some oe) (hz : Zc (.ref C) none oe) (hd : oe.data = .fields vs) (na : H a = none) (nfr : a ∉ frs X.stack) : Inv (X.suite a (X.pn ++ pins)) [] σ (upd H a (ExcK C a)) s := by
  have nL : a ≠ X.env.locals := fun z => nfr (by rw [hfr, z]; exact List.mem_cons_self ..)
  have inI : ∀ b, (∃ o, sI.heap.get? b = some o) → b ∉ frs X.stack → b ≠ a := fun b ⟨o, e⟩ hb z => by
    have := nb b o e hb
    rw [z, hB] at this
    cases this
  have old : ∀ b, (∃ o, X.s_0.heap.get? b = some o) → b ≠ a := fun b ⟨o, e⟩ => by
    intro z
    obtain ⟨o', e'⟩ := I0.base.there b o e (by rw [hex]; exact List.not_mem_nil)
    exact inI b ⟨o', e'⟩ (by rw [z]; exact nfr) z
  have keepN : ∀ b u, H b = some u → upd H a (ExcK C a) b = some u := fun b u q => by rw [upd_ne (ne_of_none q na)]; exact q
  have nfl : ∀ b, b ≠ X.env.locals → b ∉ X.fs → b ∉ frs X.stack := fun b h1 h2 z => by
    rw [hfr] at z
    rcases List.mem_cons.mp z with z | z
    · exact h1 z
    · exact h2 z
  refine ⟨I.ok.suite _ _, I.os, I.bare, ⟨I.base.keep, I.base.slot, fun b o e n hx => ?_, I.base.there, fun b xs q => keepN _ _ (I.base.tups b xs q), fun b o u q => keepN _ _ (I.base.frzs b o u q), fun b ps q => ?_⟩, I.loc, I.cell, ?_, fun x c e => ?_, fun p hp => ?_, ?_, I.len⟩
  · rw [upd_ne (old b ⟨o, e⟩)]
    exact I.base.free b o e n hx
  · obtain ⟨m, q'⟩ := I.base.tbls b ps q
    exact ⟨m, keepN _ _ q'⟩
  · rw [upd_ne (Ne.symm nL)]
    exact I.free
  · rw [upd_ne]
    · exact I.freeC x c e
    · rintro rfl
      obtain ⟨v, o, ho, hdc⟩ := I.cell x c e
      rw [he] at ho
      cases ho
      rw [hd] at hdc
      cases hdc
  · rw [List.append_nil] at hp
    obtain ⟨k1, k2, k3, k4, k5⟩ := I.pin p hp
    refine ⟨k1, ?_, k3, k4, k5⟩
    rw [upd_ne (inI p.1 ⟨_, (I0.pin p hp).1⟩ (nfl _ k3 k4))]
    exact k2
  · refine I.hok.laidN (fun _ _ q => q) na ⟨⟨oe, vs, he, hz, hd⟩, ⟨oe, he⟩, fun _ _ ⟨o, v, q, r⟩ k => ⟨o, v, k o q, r⟩⟩
theorem inv_unsuite {a : Addr} {pn' : List (Addr × Obj)} (I : Inv (X.suite a (X.pn ++ pins)) pn' σ H s) (ok : X.Ok) : Inv X pins σ H s :=
  ⟨ok, I.os, I.bare, I.base, I.loc, I.cell, I.free, I.freeC, fun p hp => I.pin p (List.mem_append_left _ hp), I.hok, I.len⟩
end
/-- what the clause wishes of an exception: slot i holds it, and it is tracked -/
def wTrk (K : PySem.W.Frag) (c : Value) (i : Nat) (ts : Addr → TS) (Wout : WX) (D : Ends) : WX := fun cls d σ H => ∃ b, PySem.W.exmOne K cls c = some b ∧
  (b = true → ∃ C, cls = .ref C ∧ d = none ∧ ∀ a, H a = none → ts C { nx := fun σ' H' => D.nx (σ'.set i none) H', rt := D.rt, bk := fun σ' H' => D.bk (σ'.set i none) H', ct := fun σ' H' => D.ct (σ'.set i none) H' } (σ.set i (some (.ref a))) (upd H a (ExcK C a))) ∧ (b = false → Wout cls d σ H)
section
variable {X : Cx} {x n : Str} {c : Value} {i : Nat} {body suite : List Stmt} {b₀ : Stmt} {np pos pos' : Pos} {tb : WX → TS} {ts : Addr → TS} {Wout : WX}
theorem ps_try_trk (hst : X.stack = X.env :: X.outer) (hfm : X.env.frame = some X.env.locals) (hex : X.ex = []) (hN : X.N.Nodup) (hi : X.N[i]? = some n) (hln : X.env.kindOf n = some .local) (hc : Names X x c) (tk : Takes X Wout)
    (hb : ∀ (W : WX) (pn : List (Addr × Obj)) (xe : Value → Shared → Prop), Takes (X.tr pn xe) W → PassesOwn (model X.prog X.w) X.A X.env xe → PSs (X.tr pn xe) body (tb W)) (hsu : ∀ (a C : Addr) (pn : List (Addr × Obj)), PSs (X.suite a pn) (b₀ :: suite) (ts C)) :
    PS X (.Try body [.ExceptHandler (some (.Name x np)) (some n) (b₀ :: suite) pos'] [] [] pos) (fun D σ H => tb (wTrk X.K c i ts Wout D) D σ H) := by
  constructor
  intro pins s σ H D I h
  have ok := I.ok
  have stk : X.A.frames = some (X.env :: X.outer) := ok.frames.trans (congrArg some hst)
  have fst : frs X.stack = X.env.locals :: X.fs := by
    rw [hst]
    show List.filterMap (·.frame) (X.env :: X.outer) = _
    rw [List.filterMap_cons, hfm]
    rfl
  let cat : Value → Shared → Prop := fun e s₁ => wpAny (model X.prog X.w) X.A (noteFrame e X.env) (fun _ s₂ => wpAny (model X.prog X.w) X.A (setFlight e none) (fun _ s₃ => wpAny (model X.prog X.w) X.A (handleBy e X.env [.ExceptHandler (some (.Name x np)) (some n) (b₀ :: suite) pos']) (SP X pins D) X.xe s₃) X.xe s₂) X.xe s₁
  have catches : Takes (X.tr (X.pn ++ pins) cat) (wTrk X.K c i ts Wout D) := by
    intro u s1 xx
    obtain ⟨a, B, sI, pins1, σ1, H1, cls, d, rfl, IT, nb, up, sky, na, os, ag, b, hb1, hyes, hno⟩ := xx
    have I1 : Inv X pins σ1 H1 sI := IT.ofTry ok
    rw [hst] at sky
    show wpAny (model X.prog X.w) X.A (noteFrame (.ref a) X.env) _ _ s1
    refine Sky.land Zc.steady stk hfm sky fun g1 fl1 up1 => ?_
    have J1 : Inv X pins σ1 H1 { s1 with heap := g1 } := I1.landed nb fl1.1 (up.trans up1) os ag
    obtain ⟨o1, v1, get1, zc1, dat1⟩ := fl1.there
    have off : a ∉ frs X.stack := fun hm => by
      rw [hst] at hm
      obtain ⟨_, o', e', hnf⟩ := fl1.2.2.1.mem hm
      rw [get1] at e'
      cases e'
      exact hnf _ dat1
    have nL : a ≠ X.env.locals := fun z => off (by rw [fst, z]; exact List.mem_cons_self ..)
    have nF : a ∉ X.fs := fun z => off (by rw [fst]; exact List.mem_cons_of_mem _ z)
    have lk : PySem.W.Looks (model X.prog X.w) g1 (typeOf (.ref a)) cls := fun A0 Q0 E0 s0 k q => wpAny_typeOf_ref (k _ _ get1) (by rw [zc1.1]; exact q)
    have asked := PySem.W.exm_one (M := model X.prog X.w) J1.kIn lk hb1
    have S1 := J1.suite get1 dat1 na nL nF
    have named : ∀ {Q0 : Value → Shared → Prop} {E0 : Value → Shared → Prop}, Q0 c { s1 with heap := g1 } → wpAny (model X.prog X.w) (X.A.mark (some (.ref a))) (eval (.Name x np) X.env) Q0 E0 { s1 with heap := g1 } := fun {Q0 E0} q => by
      rcases hc with ⟨c1, c2, c3 | ⟨c3, c4, c5⟩⟩
      · exact ld_glob (X := X.suite a ((a, o1) :: (X.pn ++ pins))) S1 c1 c3 q c2
      · exact ld_blt (X := X.suite a ((a, o1) :: (X.pn ++ pins))) S1 c1 c3 c4 q c5 c2
    refine wpAny_handleBy_cons (codeAny_handlers_test (named (asked.here ?_))) (by intro q; cases q)
    cases b with
    | false =>
      show wpAny _ X.A (handleBy (.ref a) X.env []) _ _ _
      refine wpAny_handleBy_nil ?_
      obtain ⟨_, _, _, oe, vs, T, _, _, q1, _, q2, q3, _⟩ := id fl1
      unfold PySem.passOn
      refine wpAny_bind (wpAny_field q1 q2 q3 ?_)
      rw [if_neg (by simp)]
      have last : wpAny (model X.prog X.w) X.A (setFlight (.ref a) X.env.frame) (fun _ t => wpAny (model X.prog X.w) X.A (throw (.ref a) : Sem Flow) (SP X pins D) X.xe t) X.xe { s1 with heap := g1 } := by
        rw [hfm]
        refine HandSPX.setFlight_upZ fl1 fun g2 held2 up2 => wpAny_throw (tk _ _ ⟨a, B, sI, pins, σ1, H1, cls, d, rfl, I1, nb, (up.trans up1).trans up2, .inr (.inr ?_), na, os, ag, hno rfl⟩)
        rw [hst]
        exact held2
      first | exact wpAny_bind last | exact wpAny_bind (wpAny_pure (wpAny_bind last))
    | true =>
      obtain ⟨C, rfl, rfl, hts⟩ := hyes rfl
      refine codeAny_handlers_suite_as (HandSPX.lands_againZ fl1 fun g2 fl2 up2 => ?_)
      have J2 : Inv X pins σ1 H1 { s1 with heap := g2 } := I1.landed nb fl2.1 ((up.trans up1).trans up2) os ag
      obtain ⟨o2, v2, get2, zc2, dat2⟩ := fl2.there
      have S2 := inv_track hex fst J2 I1 nb fl2.2.1 get2 zc2 dat2 na off
      refine store_ok (X := X.suite a (X.pn ++ pins)) (v := .ref a) S2 hN hi (.inl hln) rfl (fun s3 S3 => ?_) (.inr hln)
      refine wpAny_mono ((hsu a C (X.pn ++ pins)).run [] s3 _ _ _ S3 (hts a na)) (fun f s4 hsp => ?_) (fun _ _ z => z.elim)
      have unbind : ∀ {σ4 : L2.St} {H4 : Hp} {Q0 : Shared → Prop}, Inv (X.suite a (X.pn ++ pins)) [] σ4 H4 s4 → (∀ s5, Inv X pins (σ4.set i none) H4 s5 → Q0 s5) → wpAny (model X.prog X.w) X.A (do bindName X.env n .none; unbindBehindTheSuite X.env n pos') (fun _ s5 => Q0 s5) X.xe s4 := fun S4 k => gone_ok (inv_unsuite S4 ok) hN hi hln k
      cases f with
      | ret u => obtain ⟨v4, σ4, H4, S4, r4, q4⟩ := hsp; exact unbind S4 fun s5 J5 => ⟨_, _, _, J5, r4, q4⟩
      | next => obtain ⟨σ4, H4, S4, q4⟩ := hsp; exact unbind S4 fun s5 J5 => ⟨_, _, J5, q4⟩
      | cont => obtain ⟨σ4, H4, S4, q4⟩ := hsp; exact unbind S4 fun s5 J5 => ⟨_, _, J5, q4⟩
      | brk => obtain ⟨σ4, H4, S4, q4⟩ := hsp; exact unbind S4 fun s5 J5 => ⟨_, _, J5, q4⟩
  have run := (hb (wTrk X.K c i ts Wout D) (X.pn ++ pins) cat catches PassesOwn.looking).run [] s σ H D (I.toTry _) h
  refine wpAny_Try_except (wpAny_mono run (fun f s1 hsp => ?_) fun _ _ z => z)
  cases f with
  | ret u => obtain ⟨v, σ1, H1, I1, r1, q1⟩ := hsp; exact ⟨v, σ1, H1, I1.ofTry ok, r1, q1⟩
  | next => obtain ⟨σ1, H1, I1, q1⟩ := hsp; exact wpAny_execs_nil ⟨σ1, H1, I1.ofTry ok, q1⟩
  | cont => obtain ⟨σ1, H1, I1, q1⟩ := hsp; exact ⟨σ1, H1, I1.ofTry ok, q1⟩
  | brk => obtain ⟨σ1, H1, I1, q1⟩ := hsp; exact ⟨σ1, H1, I1.ofTry ok, q1⟩
end
def unbF (i : Nat) : Fl → Fl
  | .nx ρ => .nx (ρ.set i .emp)
  | .brk ρ => .brk (ρ.set i .emp)
  | .cnt ρ => .cnt (ρ.set i .emp)
  | .ret d ρ => .ret d (ρ.set i .emp)
  | _ => .bad
def tryV (i : Nat) (cs : List String) (hit : String → Bool) (ts : XS) : Fl → Fl
  | .exc c ρ => if cs.contains c = true then (if hit c = true then unbF i (ts (ρ.set i (.val (.exn c)))) else .exc c ρ) else .bad
  | r => r
def xTryV (i : Nat) (cs : List String) (hit : String → Bool) (tb ts : XS) : XS := fun ρ => tryV i cs hit ts (tb ρ)
section
variable {X : Cx} {E : EW} {fr : Bool} {cv : String → Value} {pos : Pos}
theorem xs_tryV {n : Str} {x : Str} {c : Value} {i : Nat} {body suite : List Stmt} {b₀ : Stmt} {np pos pos' : Pos} {Wout : WX} {tb ts : XS} {cs : List String} {hit : String → Bool} (h0 : i ≠ 0)
    (hst : X.stack = X.env :: X.outer) (hfm : X.env.frame = some X.env.locals) (hex : X.ex = []) (hN : X.N.Nodup) (hi : X.N[i]? = some n) (hln : X.env.kindOf n = some .local) (hc : Names X x c) (tk : Takes X Wout)
    (hx : ∀ k ∈ cs, PySem.W.exmOne X.K (cv k) c = some (hit k)) (hV : ∀ k ∈ cs, ∃ C, cv k = .ref C ∧ ClsAt X.K k C)
    (hb : ∀ (W : WX) (pn : List (Addr × Obj)) (xe : Value → Shared → Prop), Takes (X.tr pn xe) W → PassesOwn (model X.prog X.w) X.A X.env xe → PSs (X.tr pn xe) body (lS X.K (EWx cv W) fr tb))
    (hsu : ∀ (a : Addr) (pn : List (Addr × Obj)), PSs (X.suite a pn) (b₀ :: suite) (lS X.K E0 fr ts)) :
    PS X (.Try body [.ExceptHandler (some (.Name x np)) (some n) (b₀ :: suite) pos'] [] [] pos) (lS X.K (EWx cv Wout) fr (xTryV i cs hit tb ts)) := by
  refine ps_imp (ps_try_trk (i := i) (c := c) (tb := fun W => lS X.K (EWx cv W) fr tb) (ts := fun C D σ H => ∃ k ∈ cs, hit k = true ∧ cv k = .ref C ∧ lS X.K E0 fr ts D σ H) hst hfm hex hN hi hln hc tk hb ?_) ?_
  · intro a C pn
    constructor
    intro pins s σ H D I h
    obtain ⟨_, _, _, _, h⟩ := h
    exact (hsu a pn).run pins s σ H D I h
  · intro D σ H h
    obtain ⟨F, ρ, r, p⟩ := h
    refine ⟨F, ρ, r, ?_⟩
    unfold PendS xTryV at p
    unfold PendS
    cases e : tb ρ with
    | nx _ => simp only [e, tryV] at p ⊢; exact p
    | ret _ _ => simp only [e, tryV] at p ⊢; exact p
    | brk _ => simp only [e, tryV] at p ⊢; exact p
    | cnt _ => simp only [e, tryV] at p ⊢; exact p
    | bad => simp only [e, tryV] at p
    | exc k ρ1 =>
      simp only [e, tryV] at p ⊢
      by_cases hk : cs.contains k = true
      · rw [if_pos hk] at p
        have hm : k ∈ cs := by simpa using hk
        obtain ⟨C, hC, hat⟩ := hV k hm
        intro σ' F' H' g
        refine ⟨hit k, hx k hm, fun hh => ⟨C, hC, rfl, fun a na => ?_⟩, fun hh => ?_⟩
        · rw [if_pos hh] at p
          refine ⟨k, hm, hh, hC, ?_⟩
          have gn := (Gr.new (o := ExcK C a) g.rel.ex na).go g.rel
          have g1 := Go.setVal (i := i) (v := .ref a) (d := .exn k) h0 gn.rel (.exn hat upd_same)
          refine ⟨upd F' a (ExcK C a), _, g1.rel, ?_⟩
          have g01 := (g.trans r gn).trans r g1
          have back : ∀ {ρ2 : Rho} {σ2 : L2.St} {F2 H2 : Hp}, Go X.K (ρ1.set i (.val (.exn k))) (σ'.set i (some (.ref a))) (upd F' a (ExcK C a)) (upd H' a (ExcK C a)) ρ2 σ2 F2 H2 → Go X.K ρ σ F H (ρ2.set i .emp) (σ2.set i none) F2 H2 := fun {ρ2 σ2 F2 H2} g2 =>
            (g01.trans r g2).trans r (Go.setSlot (i := i) (s := .emp) (o := none) h0 (fun _ z => by cases z) (fun _ z => by cases z) g2.rel .emp)
          unfold PendS
          cases e2 : ts (ρ1.set i (.val (.exn k))) with
          | nx ρ2 => rw [e2] at p; exact fun σ2 F2 H2 g2 => p _ F2 H2 (back g2)
          | brk ρ2 => rw [e2] at p; exact fun σ2 F2 H2 g2 => p _ F2 H2 (back g2)
          | cnt ρ2 => rw [e2] at p; exact fun σ2 F2 H2 g2 => p _ F2 H2 (back g2)
          | ret d ρ2 =>
            rw [e2] at p
            exact ⟨fun ef v σ2 F2 H2 g2 rv => p.1 ef v _ F2 H2 (back g2) rv, fun ef q o σ2 F2 H2 g2 k1 k2 k3 k4 k5 => p.2 ef q o _ F2 H2 (back g2) k1 k2 k3 (fun z => k4 (own_set_val (fun _ y => by cases y) z)) (own_back r g01 k5)⟩
          | exc _ _ => rw [e2] at p; exact p.elim
          | bad => rw [e2] at p; exact p.elim
        · have hf : ¬ hit k = true := fun z => by rw [hh] at z; cases z
          rw [if_neg hf] at p
          exact p σ' F' H' g
      · rw [if_neg hk] at p
        exact p.elim
/-- the type of a value, an exception's too -/
def TyV (K : PySem.W.Frag) (H : Hp) (x : V) (t : Value) : Prop := TyX K H x t ∨ ∃ a C, x = .ref a ∧ H a = some (ExcK C a) ∧ ExcC K C ∧ t = .ref C
theorem kit_ofV {pins : List (Addr × Obj)} {σ : L2.St} {H : Hp} {s : Shared} {x : V} {u t : Value} (I : Inv X pins σ H s) (rx : RelV x u) (ty : TyV X.K H x t) : ∃ P : Heap → Prop, PySem.W.KitX X.K u t P ∧ P s.heap ∧ u ≠ .builtin "__main__.__loader__#opaque" := by
  rcases ty with ty | ⟨a, C, rfl, ha, c, rfl⟩
  · exact kit_of I rx ty
  · obtain rfl : u = Value.ref a := rx
    obtain ⟨⟨oe, vs, q1, ⟨q2, q3⟩, q4⟩, _⟩ := I.hok a _ ha
    obtain ⟨k1, k2, k3, k4⟩ := oe
    dsimp only at q2 q3 q4
    subst q2 q3 q4
    exact ⟨_, PySem.W.handS_kitx_exc c.hg c.hk c.hs c.hd c.ha c.hn c.ht c.hm, (⟨q1, rfl, rfl, trivial⟩ : PySem.W.InstAt s.heap a _ C none), fun z => nomatch z⟩
def rIsV (K : PySem.W.Frag) : List V → Hp → VK → Prop := fun xs H Q => ∃ (x c : V) (t u : Value) (b : Bool), xs = [x, c] ∧ ClsV c u ∧ TyV K H x t ∧ PySem.W.kitOne K t u = some b ∧ Q (.bl b) H
def rIsVT (K : PySem.W.Frag) : List V → Hp → VK → Prop := fun xs H Q => ∃ (x : V) (tp : Addr) (cs : List V) (t : Value) (us : List Value) (b : Bool), xs = [x, .ref tp] ∧ H tp = some (.tup cs) ∧ Paired ClsV cs us ∧ TyV K H x t ∧ PySem.W.kitAny K t us = some b ∧ Q (.bl b) H
theorem call_isV : CallR X (.builtin "isinstance") (rIsV X.K) := by
  rintro pins s σ H xs us Q I r ⟨x, c, t, u, b, rfl, k, ty, e, q⟩
  obtain ⟨w1, w2, rfl, r1, r2⟩ := vals2 r
  obtain rfl := k.eq r2
  obtain ⟨P, kx, px, ne⟩ := kit_ofV I r1 ty
  exact PySem.W.kia_one kx I.kIn px e ne fun tk => ⟨.bl b, H, I.tok tk, rfl, q⟩
theorem call_isVT : CallR X (.builtin "isinstance") (rIsVT X.K) := by
  rintro pins s σ H xs us Q I r ⟨x, tp, cs, t, ws, b, rfl, hT, k, ty, e, q⟩
  obtain ⟨w1, w2, rfl, r1, r2⟩ := vals2 r
  obtain rfl : w2 = Value.ref tp := r2
  obtain ⟨P, kx, px, ne⟩ := kit_ofV I r1 ty
  obtain ⟨_, its, rv, ⟨c1, c2, c3, c4⟩, g1, g2, g3, g4⟩ := (show ObjOk X.prog X.w H s.heap tp (.tup cs) from I.hok tp _ hT)
  obtain rfl := ClsV.all k rv
  dsimp only at g2 g4
  subst g2 g4
  exact PySem.W.kia_tup kx I.kIn px g1 e ne fun tk => ⟨.bl b, H, I.tok tk, rfl, q⟩
def dIsX (R : List String) (f : String → Bool) : D → Option D
  | .exn k => if R.contains k = true then some (.bl (f k)) else none
  | .non => some (.bl false)
  | _ => none
/-- what the classes of R and None are, asked for these -/
structure IsK (K : PySem.W.Frag) (R : List String) (f : String → Bool) (us : List Value) : Prop where
  ex : ∀ k ∈ R, ∀ C, ClsAt K k C → ExcC K C ∧ PySem.W.kitAny K (.ref C) us = some (f k)
  no : PySem.W.kitAny K (.type "NoneType") us = some false
theorem isX_of {K : PySem.W.Frag} {R : List String} {f : String → Bool} {us : List Value} (h : IsK K R f us) {F H : Hp} {v : V} {x d : D} (ex : Same F H) (rv : Rp K F v x) (e : dIsX R f x = some d) : ∃ t b, TyV K H v t ∧ PySem.W.kitAny K t us = some b ∧ d = .bl b := by
  cases rv with
  | non => cases e; exact ⟨_, _, .inl (.base .non), h.no, rfl⟩
  | @exn a C c hc hf =>
    unfold dIsX at e
    dsimp only at e
    split at e
    · rename_i hr
      cases e
      obtain ⟨h1, h2⟩ := h.ex c (by simpa using hr) C hc
      exact ⟨_, _, .inr ⟨a, C, rfl, ex _ _ hf, h1, rfl⟩, h2, rfl⟩
    · cases e
  | _ => cases e
theorem kit_one {K : PySem.W.Frag} {t u : Value} {b : Bool} (h : PySem.W.kitAny K t [u] = some b) : PySem.W.kitOne K t u = some b := by
  unfold PySem.W.kitAny at h
  cases q : PySem.W.kitOne K t u with
  | none => rw [q] at h; cases h
  | some c =>
    rw [q] at h
    cases c with
    | true => exact h
    | false => exact h
/-- isinstance(e, C), C a class that stands at u -/
theorem xe_isX1 {R : List String} {f : String → Bool} {u : Value} {cV : V} {o e2 : Expr} {te : XV} {p : Pos} (h : IsK X.K R f [u]) (hcv : ClsV cV u) (hg : Gl X "isinstance") (hm : X.mg "isinstance" = none) (he : PE X o (lE X.K E te)) (hx : PE X e2 (tC cV))
    (s1 : starEach [o, e2] X.env = (false, eval o X.env) :: starEach [e2] X.env := by rfl) (s2 : starEach [e2] X.env = (false, eval e2 X.env) :: starEach [] X.env := by rfl) (hpl : (backTo pos (starEach [e2] X.env)).any (·.1) = false := by rfl) :
    PE X (.Call (.Name "isinstance" p) [o, e2] [] pos) (lE X.K E (xOp1 (dIsX R f) te)) := by
  refine pe_imp (pe_callB call_isV hg hm bt_isinstance (pa_cons he (pa_cons hx pa_nil s2) s1) (he := s1) (hpl := hpl)) fun σ H Q q => ?_
  obtain ⟨F, ρ, r, p⟩ := q
  refine ⟨F, ρ, r, (Pend.bind r p).mono fun x ρ1 F1 H1 g1 q v rv => ?_⟩
  obtain ⟨d, e, q⟩ := q.lift
  obtain ⟨t, b, k1, k2, rfl⟩ := isX_of h g1.rel.ex rv e
  exact ⟨v, cV, t, u, b, rfl, hcv, k1, kit_one k2, q F1 H1 (Go.refl g1.rel) _ (.bl b)⟩
theorem clsNs_paired {es : List Expr} {cs : List V} {us : List Value} (h : ClsNs X es cs us) : Paired ClsV cs us := by
  induction h with
  | nil => exact .nil
  | ref _ _ _ _ ih => exact .cons (.own _) ih
/-- isinstance(e, (C, D, ..)) -/
theorem xe_isXT {R : List String} {f : String → Bool} {us : List Value} {cs : List V} {es : List Expr} {kk : Nat} {o : Expr} {te : XV} {p p2 : Pos} (h : IsK X.K R f us) (hg : Gl X "isinstance") (hm : X.mg "isinstance" = none) (he : PE X o (lE X.K E te)) (hc : ClsNs X es cs us) (hlen : cs.length ≤ sizeLine)
    (hst : ∀ (x : Str) (p : Pos) (rest : List Expr), starEach (.Name x p :: rest) X.env = (false, eval (.Name x p) X.env) :: starEach rest X.env := by intro _ _ _; rfl)
    (s1 : starEach [o, .Tuple es kk p2] X.env = (false, eval o X.env) :: starEach [.Tuple es kk p2] X.env := by rfl) (s2 : starEach [.Tuple es kk p2] X.env = (false, eval (.Tuple es kk p2) X.env) :: starEach [] X.env := by rfl) (hpl : (backTo pos (starEach [.Tuple es kk p2] X.env)).any (·.1) = false := by rfl) :
    PE X (.Call (.Name "isinstance" p) [o, .Tuple es kk p2] [] pos) (lE X.K E (xOp1 (dIsX R f) te)) := by
  refine pe_imp (pe_callB call_isVT hg hm bt_isinstance (pa_cons he (pa_cons (pe_tup (pa_cls hc hst)) pa_nil s2) s1) (he := s1) (hpl := hpl)) fun σ H Q q => ?_
  obtain ⟨F, ρ, r, p⟩ := q
  refine ⟨F, ρ, r, (Pend.bind r p).mono fun x ρ1 F1 H1 g1 q v rv => ⟨hlen, fun tp ht => ?_⟩⟩
  obtain ⟨d, e, q⟩ := q.lift
  have gn := Gr.newO (o := .tup cs) g1.rel.ex ht
  obtain ⟨t, b, k1, k2, rfl⟩ := isX_of h gn.sub rv e
  exact ⟨v, tp, cs, t, us, b, rfl, upd_same, clsNs_paired hc, k1, k2, q F1 _ (gn.go g1.rel) _ (.bl b)⟩
end
section
variable {K : PySem.W.Frag} {C : Addr} {t : Value} {b : Bool}
theorem kit_refT (c : ClsT K C) (hne : t ≠ .ref C) (h : PySem.W.subIn K t (.ref C) = some b) : PySem.W.kitOne K t (.ref C) = some b := by
  unfold PySem.W.kitOne
  rw [if_neg (by simpa using hne)]
  unfold PySem.W.kitCls
  have h2 : ((PySem.W.clsIn K C).isSome && PySem.W.typeIn K (.ref C) == some (.type "type")) = true := by
    have : (PySem.W.clsIn K C).isSome = true := c.cl
    rw [this, c.ty]
    rfl
  simp only
  rw [if_pos h2]
  exact h
theorem kit_nonE : PySem.W.kitOne K (.type "NoneType") (.type "ValueError") = some false := kit_ty (by decide +kernel)
end
section
variable (ρ : Rho) (i : Nat)
theorem ziZ (cs : List String) (hit : String → Bool) (tb ts : XS) : xTryV i cs hit tb ts ρ = tryV i cs hit ts (tb ρ) := rfl
theorem zja (cs : List String) (hit : String → Bool) (ts : XS) : tryV i cs hit ts (.nx ρ) = .nx ρ := rfl
theorem zjb (cs : List String) (hit : String → Bool) (ts : XS) (d : D) : tryV i cs hit ts (.ret d ρ) = .ret d ρ := rfl
theorem zjc : unbF i (.nx ρ) = .nx (ρ.set i .emp) := rfl
theorem zjd (d : D) : unbF i (.ret d ρ) = .ret d (ρ.set i .emp) := rfl
theorem zje (R : List String) (f : String → Bool) : dIsX R f .non = some (.bl false) := rfl
theorem zjf (c : String) : dIs (.exn c) .non = some (.bl false) := rfl
theorem zjg (c : String) : dIsNot (.exn c) .non = some (.bl true) := rfl
end
end G


set_option maxHeartbeats 4000000
namespace G
open PySem PySem.Spec PyProof.Rows L2

def putD (f : Str) (d : D) : List (Str × D) → List (Str × D)
  | [] => [(f, d)]
  | (g, x) :: r => if g = f then (g, d) :: r else (g, x) :: putD f d r
section
variable {X : Cx} {E : EW} {fr : Bool} {cv : String → Value} {W : WX} {pos : Pos}
section
variable {c : String} {C : Addr} {ban : Nat} {md : List Bool} {k : Nat} {f : Addr} {fd : FuncData} {ps : List Str} {g : DF} {m : Str} {o e : Expr} {es : List Expr} {te : XV} {t : XA} {apos : Pos} {pl : Sem Bool}
end
end
section
variable (ρ : Rho) (i : Nat) (te : XV) (t : XA)
end
end G


set_option maxHeartbeats 4000000
namespace G
open PySem PySem.Spec PyProof.Rows L2

section
variable {X : Cx} {E : EW} {pos : Pos}
end
section
variable (ρ : Rho) (i : Nat) (ta tb : XV)
end
end G


set_option maxHeartbeats 4000000
namespace G
open PySem PySem.Spec PyProof.Rows L2

section
variable {X : Cx}
end
section
variable {X : Cx} {E : EW} {pos : Pos}
end
section
end
end G


set_option maxHeartbeats 4000000
namespace G
open PySem PySem.Spec PyProof.Rows L2

section
variable {X : Cx} {E : EW} {pos : Pos}
theorem lE_of_test {t : XV} {σ H Q} (h : lT X.K E (xTest t) σ H Q) : lE X.K E t σ H (fun x H' => ∃ k, x = .bl k ∧ Q k H') := by
  obtain ⟨F, ρ, r, p⟩ := h
  refine ⟨F, ρ, r, (Pend.bind r p).mono fun x ρ1 F1 H1 g1 q v rv => ?_⟩
  obtain ⟨c, e, q⟩ := bl_of g1.rel rv q
  exact ⟨c, e, q⟩
theorem chain_imp {f g : D → D → Option D} {r r' : R2} {ta tb tc : XV} (hi : Imp2 X.K f r) (hi' : Imp2 X.K g r') {σ H Q} (h : lE X.K E (xChain f g ta tb tc) σ H Q) : tChain r r' (lE X.K E ta) (lE X.K E tb) (lE X.K E tc) σ H Q := by
  obtain ⟨F, ρ, r, p⟩ := h
  refine ⟨F, ρ, r, (Pend.bind r p).mono fun x ρ1 F1 H1 g1 q v rv => ⟨F1, ρ1, g1.rel, (Pend.bind g1.rel q).mono fun y ρ2 F2 H2 g2 q w rw => ?_⟩⟩
  unfold xChn at q
  split at q
  · rename_i e
    refine hi F2 H2 v w x y _ _ g2.rel.ex (rv.mono g2.ex) rw e (outV_of g2.rel fun F' H' g3 z rz => ?_)
    cases rz
    refine ⟨true, rfl, ?_⟩
    rw [if_pos rfl]
    refine ⟨F', ρ2, g3.rel, (Pend.bind g3.rel (Pend.go g2.rel g3 q)).mono fun w' ρ3 F3 H3 g4 q3 w0 rw0 => ?_⟩
    obtain ⟨d, e2, q3⟩ := q3.lift
    exact hi' F3 H3 w w0 y w' d Q g4.rel.ex ((rw.mono g3.ex).mono g4.ex) rw0 e2 (outV_of g4.rel q3)
  · rename_i e
    refine hi F2 H2 v w x y _ _ g2.rel.ex (rv.mono g2.ex) rw e (outV_of g2.rel fun F' H' g3 z rz => ?_)
    cases rz
    refine ⟨false, rfl, ?_⟩
    rw [if_neg (by decide)]
    exact q F' H' g3 (.bl false) (.bl false)
  · exact q.elim
theorem xt_chain {op op' : CmpOp} {f g : D → D → Option D} {r r' : R2} {a b c : Expr} {ta tb tc : XV} (ho : OpR X (compareOp op) r) (hi : Imp2 X.K f r) (ho' : OpR X (compareOp op') r') (hi' : Imp2 X.K g r') (ha : PE X a (lE X.K E ta)) (hb : PE X b (lE X.K E tb)) (hc : PE X c (lE X.K E tc))
    (hm : lastMarks [op, op'] [b, c] = false := by with_unfolding_all rfl) : PT X (.Compare a [op, op'] [b, c] pos) (lT X.K E (xTest (xChain f g ta tb tc))) :=
  pt_imp (pt_chain ho ho' ha hb hc hm) fun _ _ _ h => chain_imp hi hi' (lE_of_test h)
end
end G


set_option maxHeartbeats 4000000
namespace G
section
open PySem PySem.W PySem.Calls PyProof.Rows PyProof.V PySem.Spec
variable {prog : Program} {w : World} {A : Around} {E : Value → Shared → Prop} {s : Shared}
end
section
open PySem PySem.Spec PyProof.Rows L2
variable {X : Cx}
end
open PySem PySem.Spec PyProof.Rows L2
end G


set_option maxHeartbeats 4000000
namespace G
section
open PySem PySem.W PySem.Calls PyProof.Rows PyProof.V PySem.Spec L2
variable {prog : Program} {w : World} {A : Around} {E : Value → Shared → Prop} {s : Shared}
end
section
open PySem PySem.Spec PyProof.Rows L2
end
end G


set_option maxHeartbeats 4000000
namespace G
open PySem PySem.Spec PyProof.Rows L2
section
variable {X : Cx} {E : EW} {pos : Pos}
theorem RpAll.erase {K : PySem.W.Frag} {F : Hp} : ∀ {vs : List V} {ds : List D} (n : Nat), RpAll K F vs ds → RpAll K F (vs.eraseIdx n) (ds.eraseIdx n)
  | _, _, _, .nil => by rw [List.eraseIdx_nil, List.eraseIdx_nil]; exact .nil
  | _, _, 0, .cons _ r => r
  | _, _, n + 1, .cons a r => .cons a (RpAll.erase n r)
end
section
variable (ρ : Rho) (i n : Nat) (t : XV) (ds : List D) (es : List (List Key × D)) (z : Bool) (d : D) (j : Int)
end
end G


set_option maxHeartbeats 4000000
namespace G
open PySem PySem.Spec PyProof.Rows L2
theorem RpAll.empty {K : PySem.W.Frag} {F : Hp} {xs : List V} {ds : List D} (r : RpAll K F xs ds) : xs.isEmpty = ds.isEmpty := by
  cases r <;> rfl
section
variable {X : Cx} {E : EW} {pos : Pos}
end
section
variable (ρ : Rho) (t u : XV) (d : D)
end
end G


set_option maxHeartbeats 4000000
namespace G
open PySem PySem.Spec PyProof.Rows L2

def ctn (tp : Bool) (vs : List V) : HO := if tp = true then .tup vs else .lst vs
/-- where the region stands: the list or tuple at p, its things at as, flat objects with the data cs -/
structure TG (K : PySem.W.Frag) (ρ0 : Rho) (σ0 : L2.St) (F0 H0 : Hp) (i : Nat) (p : Addr) (tp : Bool) (as : List Addr) (cs : List D) (ρ : Rho) (σ : L2.St) (F H : Hp) : Prop where
  go : Go K ρ0 σ0 F0 H0 (ρ.set i (.adr p)) σ F H
  he : ρ[i]? = some .emp
  np : H0 p = none
  fp : tp = false → F p = none
  hp : H p = some (ctn tp (as.map V.ref))
  op : ¬ Own (ρ.set i (.adr p)) σ p
  nd : as.Nodup
  pa : p ∉ as
  ln : as.length = cs.length
  ch : ∀ (m : Nat) (a : Addr) (d : D), as[m]? = some a → cs[m]? = some d → H0 a = none ∧ F a = none ∧ ¬ Own (ρ.set i (.adr p)) σ a ∧ ∃ o, H a = some o ∧ Ro K F a o d
  i0 : i ≠ 0
section
variable {K : PySem.W.Frag} {ρ0 ρ ρ1 : Rho} {σ0 σ σ1 : L2.St} {F0 H0 F H F1 H1 : Hp} {i : Nat} {p : Addr} {tp : Bool} {as : List Addr} {cs : List D}
theorem TG.lt (t : TG K ρ0 σ0 F0 H0 i p tp as cs ρ σ F H) : i < ρ.length := (List.getElem?_eq_some_iff.mp t.he).1
theorem TG.slot (t : TG K ρ0 σ0 F0 H0 i p tp as cs ρ σ F H) : σ[i]? = some (some (.ref p)) := by
  have hl := t.go.rel.len
  rw [List.length_set] at hl
  have hl2 : i < σ.length := by have := t.lt; omega
  have hs := List.getElem?_eq_getElem hl2
  have z := t.go.rel.at' i (.adr p) _ (List.getElem?_set_self t.lt) hs
  rw [hs]
  generalize σ[i] = o at z ⊢
  cases z
  rfl
/-- an ordinary step with X in its place -/
theorem TG.step (t : TG K ρ0 σ0 F0 H0 i p tp as cs ρ σ F H) (r0 : Rel K F0 H0 ρ0 σ0) (he : ρ1[i]? = some .emp) (g : Go K (ρ.set i (.adr p)) σ F H (ρ1.set i (.adr p)) σ1 F1 H1) : TG K ρ0 σ0 F0 H0 i p tp as cs ρ1 σ1 F1 H1 := by
  have r := t.go.rel
  refine ⟨t.go.trans r0 g, he, t.np, fun h => ?_, g.sameH r t.hp t.op, own_back2 r g t.hp t.op, t.nd, t.pa, t.ln, fun m a d ha hd => ?_, t.i0⟩
  · subst h
    exact (g.keep p _ t.hp (t.fp rfl) t.op).2 nt_lst
  · obtain ⟨x1, x2, x3, o, x4, x5⟩ := t.ch m a d ha hd
    obtain ⟨k1, k2⟩ := g.keep a o x4 x2 x3
    exact ⟨x1, k2 x5.nt, own_back2 r g x4 x3, o, k1, x5.mono g.ex⟩
theorem TG.view (t : TG K ρ0 σ0 F0 H0 i p tp as cs ρ σ F H) : Go K (ρ.set i (.adr p)) σ F H ρ σ F H := by
  have g := t.go.rel.noslot t.i0 t.slot
  have e : ρ.set i .emp = ρ := by
    obtain ⟨hi, q⟩ := List.getElem?_eq_some_iff.mp t.he
    rw [← q]
    exact List.set_getElem_self hi
  rw [e] at g
  exact g
/-- expressions leave all as it was -/
theorem TG.after (t : TG K ρ0 σ0 F0 H0 i p tp as cs ρ σ F H) (r0 : Rel K F0 H0 ρ0 σ0) (he : ρ1[i]? = some .emp) (g : Go K ρ σ F H ρ1 σ F1 H1) : TG K ρ0 σ0 F0 H0 i p tp as cs ρ1 σ F1 H1 :=
  t.step r0 he ((t.view.trans t.go.rel g).trans t.go.rel (g.rel.slotAt t.i0 t.slot))
theorem at_inj {as : List Addr} (h : as.Nodup) : ∀ {m n : Nat} {a : Addr}, as[m]? = some a → as[n]? = some a → m = n := by
  intro m n a h1 h2
  obtain ⟨l1, e1⟩ := List.getElem?_eq_some_iff.mp h1
  obtain ⟨l2, e2⟩ := List.getElem?_eq_some_iff.mp h2
  rcases Nat.lt_trichotomy m n with z | z | z
  · exact absurd (e1.trans e2.symm) (List.pairwise_iff_getElem.mp h m n l1 l2 z)
  · exact z
  · exact absurd (e2.trans e1.symm) (List.pairwise_iff_getElem.mp h n m l2 l1 z)
/-- one thing is changed -/
theorem TG.mut (t : TG K ρ0 σ0 F0 H0 i p tp as cs ρ σ F H) (r0 : Rel K F0 H0 ρ0 σ0) {m : Nat} {a : Addr} {d d' : D} {o' : HO} (ha : as[m]? = some a) (hd : cs[m]? = some d) (ro : Ro K F a o' d') : TG K ρ0 σ0 F0 H0 i p tp as (cs.set m d') ρ σ F (upd H a o') := by
  obtain ⟨x1, x2, x3, o, x4, x5⟩ := t.ch m a d ha hd
  have g := t.go.touch (o' := o') r0 x1 x2 x4 x3
  have pa : p ≠ a := fun z => t.pa (z ▸ List.mem_of_getElem? ha)
  refine ⟨g, t.he, t.np, t.fp, by rw [upd_ne pa]; exact t.hp, t.op, t.nd, t.pa, by rw [List.length_set]; exact t.ln, fun m2 a2 d2 h1 h2 => ?_, t.i0⟩
  by_cases e : m2 = m
  · subst e
    rw [ha] at h1
    cases h1
    rw [List.getElem?_set_self (List.getElem?_eq_some_iff.mp hd).1] at h2
    cases h2
    exact ⟨x1, x2, x3, o', upd_same, ro⟩
  · rw [List.getElem?_set_ne (Ne.symm e)] at h2
    obtain ⟨y1, y2, y3, o2, y4, y5⟩ := t.ch m2 a2 d2 h1 h2
    have na : a2 ≠ a := fun z => e (at_inj t.nd (z ▸ h1) ha)
    exact ⟨y1, y2, y3, o2, by rw [upd_ne na]; exact y4, y5⟩
end
abbrev GS := List D → Rho → Option (List D × Rho)
section
variable {X : Cx} {E : EW} {fr : Bool} {i : Nat} {T1 T2 : TS} {t1 t2 : GS}
end
section
variable {X : Cx} {E : EW} {fr : Bool} {i : Nat}
/-- reading X[c] -/
theorem TG.ix {K : PySem.W.Frag} {ρ0 ρ : Rho} {σ0 σ : L2.St} {F0 H0 F H : Hp} {p : Addr} {tp : Bool} {as : List Addr} {cs : List D} (t : TG K ρ0 σ0 F0 H0 i p tp as cs ρ σ F H) {n : Int} {m : Nat} {a : Addr} (hx : ixN cs.length n = some m) (ha : as[m]? = some a) {Q : VK} (q : Q (.ref a) H) : rIx K (.ref p) (.int n) H Q := by
  have hat : atI (as.map V.ref) n = some (.ref a) := by
    unfold atI
    rw [List.length_map, t.ln, hx]
    show (as.map V.ref)[m]? = _
    rw [List.getElem?_map, ha]
    rfl
  have hp := t.hp
  cases tp with
  | true => exact .inr (.inl ⟨p, as.map V.ref, n, .ref a, rfl, rfl, SqT.of hp, hat, q⟩)
  | false => exact .inl ⟨p, as.map V.ref, n, .ref a, rfl, rfl, SqL.of hp, hat, q⟩
end
section
variable {K : PySem.W.Frag} {ρ0 ρ : Rho} {σ0 σ : L2.St} {F0 H0 F H : Hp} {i : Nat} {p : Addr} {tp : Bool} {as : List Addr} {cs : List D}
end
section
variable {X : Cx} {E : EW} {fr : Bool} {i : Nat} {tp : Bool} {T1 T2 : TS} {t1 : GS} {t2 : List D → XS}
variable {x : Str} {xp pos pos2 : Pos} {rest : List Stmt}
end
section
variable {X : Cx} {E : EW} {i j : Nat}
end
section
variable {i j : Nat} {cs cs' : List D} {ρ ρ1 ρ2 ρ3 : Rho}
end
end G


set_option maxHeartbeats 4000000
namespace G
open PySem PySem.Spec PyProof.Rows L2

section
variable {X : Cx} {E : EW}
end
end G


set_option maxHeartbeats 4000000
namespace G
open PySem PySem.Spec PyProof.Rows L2

section
variable {P : Program} {w : World} {K : PySem.W.Frag} {mg : Str → Option Value} {base : Heap} {cv : String → Value} {fr : Bool} {f : Addr} {fd : FuncData} {ps : List Str} {k : Nat} {md : List Bool}
theorem fb_pure (hm : md.length = ps.length) : FnOk P w K mg base (L2.CX P w) k f fd ps (spP K cv fr md fun _ => .bad) where
  len := fun vs H Q E h => by
    obtain ⟨F, ds, _, ra, h⟩ := h
    exact ra.len.1.trans hm
  run := fun A outer s H args us vs Q E _ _ _ _ h => by
    obtain ⟨F, ds, _, ra, h⟩ := h
    exact h.elim
end
end G


set_option maxHeartbeats 4000000
namespace G
open PySem PySem.Spec PyProof.Rows L2

def dStrI : List D → Option D
  | [.int i] => if i.natAbs.log2 < 1920 then some (.str (toString i)) else none
  | _ => none
theorem imp_strI {K : PySem.W.Frag} : ImpL K dStrI (fun xs H Q => ∃ i, xs = [.int i] ∧ i.natAbs.log2 < 1920 ∧ Q (.str (toString i)) H) := fun F H vs ds d Q ex ra e o => by
  unfold dStrI at e
  split at e
  · split at e
    · rename_i h
      cases e
      cases ra with
      | cons a b => cases b; cases a; exact ⟨_, rfl, h, o.here ex (.str _)⟩
    · cases e
  · cases e
section
variable {X : Cx} {E : EW}
end
end G


set_option maxHeartbeats 4000000
namespace G
section
open PySem PySem.W PySem.Calls PyProof.Rows PyProof.V PySem.Spec
variable {prog : Program} {w : World} {K : Type} [DecidableEq K] {knd : HeapKind prog w K} {A : Around} {E : Value → Shared → Prop} {s : Shared}
end
section
open PySem PySem.Spec PyProof.Rows L2
variable {X : Cx}
end
section
open PySem PySem.Spec PyProof.Rows L2
variable (ρ : Rho) (i : Nat) (t : XS) (es : List (List Key × D)) (d e : D)
end
end G


set_option maxHeartbeats 4000000
namespace G
open PySem PySem.Spec PyProof.Rows L2
end G


set_option maxHeartbeats 4000000
namespace G
open PySem PySem.Spec PyProof.Rows L2
section
variable {X : Cx} {E : EW} {pos : Pos}
end
end G


namespace G
open PySem PySem.Spec PyProof.Rows L2
section
variable {X : Cx} {pos : Pos}
end
end G


namespace G
open PySem PySem.Spec PyProof.Rows L2
def dRepL : D → D → Option D
  | .lst ds, .int k => if 0 ≤ k ∧ k ≤ 1000 ∧ ds.length * k.toNat ≤ sizeLine then some (.lst (List.replicate k.toNat ds).flatten) else none
  | _, _ => none
theorem rep_all {K : PySem.W.Frag} {F : Hp} {vs : List V} {ds : List D} (r : RpAll K F vs ds) : ∀ n : Nat, RpAll K F (List.replicate n vs).flatten (List.replicate n ds).flatten
  | 0 => .nil
  | n + 1 => by
    rw [List.replicate_succ, List.replicate_succ, List.flatten_cons, List.flatten_cons]
    exact r.append (rep_all r n)
theorem imp_repL {K : PySem.W.Frag} : Imp2N K dRepL rRep := fun F H v w x y d Q ex rv rw e o => by
  unfold dRepL at e
  split at e
  · split at e
    · rename_i a k hc
      cases e
      cases rv with
      | lst hf ra =>
        rename_i p xs
        cases rw
        exact ⟨p, k, xs, rfl, rfl, ex _ _ hf, by omega, by omega, by rw [ra.length]; exact hc.2.2, fun r hr => o.new ex hr (.lst (rep_all ra _))⟩
    · cases e
  · cases e
theorem zkk (ds : List D) : dRepL (.lst ds) (.int 0) = some (.lst []) := by
  unfold dRepL
  simp only
  rw [if_pos ⟨by decide, by decide, Nat.zero_le _⟩]
  rfl
theorem zkl (d : D) : dRepL (.lst [d]) (.int 1) = some (.lst [d]) := by
  unfold dRepL
  simp only
  rw [if_pos ⟨by decide, by decide, by rw [sizeLine_eq, List.length_singleton]; decide⟩]
  rfl
end G


set_option maxHeartbeats 4000000
namespace G
open PySem PySem.Spec PyProof.Rows L2

section
variable {K : PySem.W.Frag} {E : EW}
end
end G


set_option maxHeartbeats 4000000
namespace L2
open PySem PySem.Spec PyProof.Rows
section
variable {X : Cx} {tg : Expr}
end
end L2
namespace G
open PySem PySem.Spec PyProof.Rows L2
section
variable {X : Cx} {tg : Expr} {E : EW} {pos : Pos}
end
end G


set_option maxHeartbeats 4000000
namespace G
open PySem PySem.Spec PyProof.Rows L2

/-- a text of these signs -/
def mkS (l : List Nat) : Str := ⟨l.toArray⟩
theorem tl_mkS (l : List Nat) : TL.tl (mkS l) = l := rfl
theorem mkS_len (l : List Nat) : (mkS l).length = l.length := by rw [TL.len_tl]; rfl
/-- of a text and a text -/
def d2S (C : Str → Str → Bool) (g : Str → Str → D) : D → D → Option D
  | .str a, .str b => if C a b = true then some (g a b) else none
  | _, _ => none
theorem d2S_of {C : Str → Str → Bool} {g : Str → Str → D} {x y d : D} (h : d2S C g x y = some d) : ∃ a b, x = .str a ∧ y = .str b ∧ C a b = true ∧ d = g a b := by
  unfold d2S at h
  split at h
  · split at h
    · rename_i a b hc
      cases h; exact ⟨a, b, rfl, rfl, hc, rfl⟩
    · cases h
  · cases h
/-- s.startswith(t) -/
def dStarts : D → D → Option D := d2S (fun _ _ => true) fun a b => .bl (TL.pre (TL.tl b) (TL.tl a))
theorem starts_pre (a b : Str) : Txt.startswith a b = TL.pre (TL.tl b) (TL.tl a) := by
  unfold Txt.startswith
  by_cases h : TL.tl b = []
  · have hb : b.length = 0 := by rw [TL.len_tl, h]; rfl
    rw [StrLaws.subAt_eq, hb, h]
    simp [TL.pre, h, show b.cps.toList = [] from h]
  · have hq := TL.at_iff (x := a) (y := b) h 0
    rw [List.drop_zero] at hq
    unfold StrLaws.At at hq
    cases hp : TL.pre (TL.tl b) (TL.tl a) with
    | true =>
      obtain ⟨h1, h2⟩ := hq.mpr hp
      rw [h2]
      simp only [Bool.and_true, decide_eq_true_eq]
      exact h1
    | false =>
      cases h2 : Builtin.Str.subAt a b 0 with
      | false => rw [Bool.and_false]
      | true =>
        rw [Bool.and_true, decide_eq_false_iff_not]
        intro h1
        rw [hq.mp ⟨h1, h2⟩] at hp
        cases hp
section
variable {X : Cx} {E : EW} {pos : Pos} {o e : Expr} {to te : XV}
theorem str_of {K : PySem.W.Frag} {F : Hp} {v : V} {a : Str} (r : Rp K F v (.str a)) : v = .str a := by cases r; rfl
end
/-- a text's method is asked of a text: what stands ahead is looked at first -/
def isStr : D → Bool
  | .str _ => true
  | _ => false
def xOp2S (f : D → D → Option D) (ta tb : XV) : XV := fun ρ => (ta ρ).bind fun x ρ1 => if isStr x = true then (tb ρ1).bind (lift (f x)) else .bad
section
variable {X : Cx} {E : EW} {pos : Pos} {o e : Expr} {to te : XV}
theorem isStr_of {K : PySem.W.Frag} {F : Hp} {v : V} {x : D} (r : Rp K F v x) (h : isStr x = true) : ∃ a, v = .str a ∧ x = .str a := by
  cases x with
  | str a => exact ⟨a, str_of r, rfl⟩
  | _ => cases h
theorem pend_if {α : Type} {K : PySem.W.Frag} {E : EW} {σ : L2.St} {F H : Hp} {ρ : Rho} {b : Bool} {t : Rho → Res α} {Q : α → Rho → Hp → Hp → Prop} (h : Pend K E (fun ρ => if b = true then t ρ else .bad) ρ σ F H Q) : b = true ∧ Pend K E t ρ σ F H Q := by
  cases b with
  | true => exact ⟨rfl, h⟩
  | false => unfold Pend at h; simp only [Bool.false_eq_true, if_false] at h
theorem xe_s1 {f : D → D → Option D} {id : String} {name : Str} {apos : Pos} {r : V → List V → Hp → VK → Prop} (slot : PySem.Slot "str" name id) (ty : typeOf (.builtin id) = pure (.type "method_descriptor")) (rule : MtR X id r)
    (hi : ∀ F H v w x y d Q, Same F H → Rp X.K F v x → Rp X.K F w y → f x y = some d → OutV X.K F H d Q → r v [w] H Q)
    (ho : PE X o (lE X.K E to)) (he : PE X e (lE X.K E te))
    (hs : starEach [e] X.env = [(false, eval e X.env)] := by rfl) (hbase : attributeBase o name X.env (eval o X.env) = eval o X.env := by rfl) (hline : (apos.endLine == pos.line) = true := by rfl) :
    PE X (.Call (.Attribute o name apos) [e] [] pos) (lE X.K E (xOp2S f to te)) := by
  refine pe_imp (pe_m1 slot ty rule ho he hs hbase hline) fun σ H Q h => ?_
  obtain ⟨F, ρ, r, p⟩ := h
  refine ⟨F, ρ, r, (Pend.bind r p).mono fun x ρ1 F1 H1 g1 q v rv => ?_⟩
  obtain ⟨hx, q⟩ := pend_if q
  obtain ⟨a, rfl, rfl⟩ := isStr_of rv hx
  refine ⟨⟨a, rfl⟩, F1, ρ1, g1.rel, (Pend.bind g1.rel q).mono fun y ρ2 F2 H2 g2 q w rw => ?_⟩
  obtain ⟨d, e, q⟩ := q.lift
  exact hi F2 H2 _ w _ y d Q g2.rel.ex (.str a) rw e (outV_of g2.rel q)
theorem xn_s1 {f : D → D → Option D} {id : String} {name : Str} {apos : Pos} {r : V → List V → Hp → VK → Prop} (slot : PySem.Slot "str" name id) (ty : typeOf (.builtin id) = pure (.type "method_descriptor")) (rule : MtR X id r)
    (hi : ∀ F H v w x y d Q, Same F H → Rp X.K F v x → Rp X.K F w y → f x y = some d → OutN X.K F H d Q → r v [w] H Q)
    (ho : PE X o (lE X.K E to)) (he : PE X e (lE X.K E te))
    (hs : starEach [e] X.env = [(false, eval e X.env)] := by rfl) (hbase : attributeBase o name X.env (eval o X.env) = eval o X.env := by rfl) (hline : (apos.endLine == pos.line) = true := by rfl) :
    PE X (.Call (.Attribute o name apos) [e] [] pos) (lN X.K E (xOp2S f to te)) := by
  refine pe_imp (pe_m1 slot ty rule ho he hs hbase hline) fun σ H Q h => ?_
  obtain ⟨F, ρ, r, p⟩ := h
  refine ⟨F, ρ, r, (Pend.bind r p).mono fun x ρ1 F1 H1 g1 q v rv => ?_⟩
  obtain ⟨hx, q⟩ := pend_if q
  obtain ⟨a, rfl, rfl⟩ := isStr_of rv hx
  refine ⟨⟨a, rfl⟩, F1, ρ1, g1.rel, (Pend.bind g1.rel q).mono fun y ρ2 F2 H2 g2 q w rw => ?_⟩
  obtain ⟨d, e, q⟩ := q.lift
  exact hi F2 H2 _ w _ y d Q g2.rel.ex (.str a) rw e (outN_of r (g1.trans r g2) q)
theorem xe_starts {apos : Pos} (ho : PE X o (lE X.K E to)) (he : PE X e (lE X.K E te))
    (hs : starEach [e] X.env = [(false, eval e X.env)] := by rfl) (hbase : attributeBase o "startswith" X.env (eval o X.env) = eval o X.env := by rfl) (hline : (apos.endLine == pos.line) = true := by rfl) :
    PE X (.Call (.Attribute o "startswith" apos) [e] [] pos) (lE X.K E (xOp2S dStarts to te)) := by
  refine xe_s1 F.slot_str_startswith F.type_str_startswith mt_startswith (fun F H v w x y d Q ex rv rw e o => ?_) ho he hs hbase hline
  obtain ⟨a, b, rfl, rfl, _, rfl⟩ := d2S_of e
  cases rv; cases rw
  exact ⟨a, b, rfl, rfl, by rw [starts_pre]; exact o.here ex (.bl _)⟩
/-- s.partition(t) -/
def par3 (a b : Str) : List Str := match TL.par (TL.tl b) [] (TL.tl a) with
  | some (p, q) => [mkS p, b, mkS q]
  | none => [a, Str.empty, Str.empty]
def dPart : D → D → Option D := d2S (fun a b => !(b.length == 0) && decide (a.length ≤ sizeLine)) fun a b => .tup ((par3 a b).map .str)
theorem rp_strs {K : PySem.W.Frag} {F : Hp} : ∀ ys : List Str, RpAll K F (ys.map V.str) (ys.map D.str)
  | [] => .nil
  | y :: ys => .cons (.str y) (rp_strs ys)
theorem tl_ne {b : Str} (h : (b.length == 0) = false) : TL.tl b ≠ [] := fun e => by
  rw [TL.len_tl, e] at h
  cases h
theorem xe_part {apos : Pos} (ho : PE X o (lE X.K E to)) (he : PE X e (lE X.K E te))
    (hs : starEach [e] X.env = [(false, eval e X.env)] := by rfl) (hbase : attributeBase o "partition" X.env (eval o X.env) = eval o X.env := by rfl) (hline : (apos.endLine == pos.line) = true := by rfl) :
    PE X (.Call (.Attribute o "partition" apos) [e] [] pos) (lE X.K E (xOp2S dPart to te)) := by
  refine xe_s1 F.slot_str_partition F.type_str_partition mt_partition (fun F H v w x y d Q ex rv rw e o => ?_) ho he hs hbase hline
  obtain ⟨a, b, rfl, rfl, hc, rfl⟩ := d2S_of e
  rw [Bool.and_eq_true, Bool.not_eq_true', decide_eq_true_eq] at hc
  cases rv; cases rw
  refine ⟨a, b, rfl, rfl, hc.1, hc.2, fun p hp => ?_⟩
  have e3 : [V.str (Txt.partition a b).1, .str (Txt.partition a b).2.1, .str (Txt.partition a b).2.2] = (par3 a b).map V.str := by
    rw [TL.partition_par a b (tl_ne hc.1)]
    unfold par3
    cases TL.par (TL.tl b) [] (TL.tl a) with
    | none => rfl
    | some pq => cases pq; rfl
  rw [e3]
  exact o.new ex hp (.tup upd_same (rp_strs _))
/-- s.split(t) -/
def spL (a b : Str) : List Str := (TL.spl (TL.tl b) 0 [] (TL.tl a)).map mkS
def dSplit : D → D → Option D := d2S (fun a b => !(b.length == 0) && decide (a.length + 2 ≤ sizeLine) && (TL.tl b).all (fun c => decide (c < 256))) fun a b => .lst ((spL a b).map .str)
theorem xn_split {apos : Pos} (ho : PE X o (lE X.K E to)) (he : PE X e (lE X.K E te))
    (hs : starEach [e] X.env = [(false, eval e X.env)] := by rfl) (hbase : attributeBase o "split" X.env (eval o X.env) = eval o X.env := by rfl) (hline : (apos.endLine == pos.line) = true := by rfl) :
    PE X (.Call (.Attribute o "split" apos) [e] [] pos) (lN X.K E (xOp2S dSplit to te)) := by
  refine xn_s1 F.slot_str_split F.type_str_split mt_split (fun F H v w x y d Q ex rv rw e o => ?_) ho he hs hbase hline
  obtain ⟨a, b, rfl, rfl, hc, rfl⟩ := d2S_of e
  rw [Bool.and_eq_true, Bool.and_eq_true, Bool.not_eq_true', decide_eq_true_eq] at hc
  cases rv; cases rw
  refine ⟨a, b, rfl, rfl, hc.1.1, hc.1.2, fun p hp => ?_⟩
  have e3 : Txt.split a b = spL a b := by
    refine TL.map_tl_inj ?_
    rw [TL.split_spl a b (tl_ne hc.1.1) (TL.kind_ok (by rw [← Array.all_toList]; exact hc.2))]
    unfold spL
    rw [List.map_map]
    exact (List.map_id _).symm
  rw [e3]
  exact o.new ex hp (.lst (rp_strs _))
/-- t.join(xs) -/
def strsOf : List D → Option (List Str)
  | [] => some []
  | .str a :: r => (strsOf r).map (a :: ·)
  | _ => none
theorem strsOf_of {K : PySem.W.Frag} {F : Hp} : ∀ {ds : List D} {ys : List Str}, strsOf ds = some ys → ds = ys.map .str
  | [], ys, h => by cases h; rfl
  | d :: r, ys, h => by
    cases d with
    | str a =>
      unfold strsOf at h
      cases q : strsOf r with
      | none => rw [q] at h; cases h
      | some zs => rw [q] at h; cases h; rw [strsOf_of (K := K) (F := F) q]; rfl
    | _ => cases h
theorem vs_of_strs {K : PySem.W.Frag} {F : Hp} : ∀ {vs : List V} {ys : List Str}, RpAll K F vs (ys.map .str) → vs = ys.map V.str
  | _, [], .nil => rfl
  | _, _ :: _, .cons (.str _) b => by rw [vs_of_strs b]; rfl
def joinS (a : Str) (ys : List Str) : Str := mkS (TL.joinL (TL.tl a) (ys.map TL.tl))
def joinD (a : Str) (ds : List D) : Option D := (strsOf ds).bind fun ys => if (ys.map (·.length)).sum + ys.length * a.length ≤ 16777216 then some (.str (joinS a ys)) else none
def dJoin : D → D → Option D
  | .str a, .lst ds => joinD a ds
  | .str a, .tup ds => joinD a ds
  | _, _ => none
theorem join_is (a : Str) (ys : List Str) : Txt.join a ys = joinS a ys := by
  refine TL.ext_tl ?_
  rw [TL.join_eq, TL.tl_join]
  rfl
theorem joinD_of {a : Str} {ds : List D} {d : D} (h : joinD a ds = some d) : ∃ ys, ds = ys.map .str ∧ (ys.map (·.length)).sum + ys.length * a.length ≤ 16777216 ∧ d = .str (joinS a ys) := by
  unfold joinD at h
  cases q : strsOf ds with
  | none => rw [q] at h; cases h
  | some ys =>
    rw [q] at h
    simp only [Option.bind_some] at h
    split at h
    · rename_i hc
      cases h
      exact ⟨ys, strsOf_of (K := default) (F := fun _ => none) q, hc, rfl⟩
    · cases h
theorem imp_join {K : PySem.W.Frag} : ∀ F H v w x y d Q, Same F H → Rp K F v x → Rp K F w y → dJoin x y = some d → OutV K F H d Q → (∃ a p, ∃ ys : List Str, v = .str a ∧ [w] = [V.ref p] ∧ (SqL K H p (ys.map V.str) ∨ SqT K H p (ys.map V.str)) ∧
      (ys.map (·.length)).sum + ys.length * a.length ≤ 16777216 ∧ Q (.str (Txt.join a ys)) H) := fun F H v w x y d Q ex rv rw e o => by
  unfold dJoin at e
  split at e
  · obtain ⟨ys, rfl, h1, rfl⟩ := joinD_of e
    cases rv
    cases rw with
    | lst hf ra => rw [vs_of_strs ra] at hf; exact ⟨_, _, ys, rfl, rfl, .inl (SqL.of (ex _ _ hf)), h1, by rw [join_is]; exact o.here ex (.str _)⟩
  · obtain ⟨ys, rfl, h1, rfl⟩ := joinD_of e
    cases rv
    cases rw with
    | tup hf ra => rw [vs_of_strs ra] at hf; exact ⟨_, _, ys, rfl, rfl, .inr (SqT.of (ex _ _ hf)), h1, by rw [join_is]; exact o.here ex (.str _)⟩
  · cases e
theorem xe_join {apos : Pos} (ho : PE X o (lE X.K E to)) (he : PE X e (lE X.K E te))
    (hs : starEach [e] X.env = [(false, eval e X.env)] := by rfl) (hbase : attributeBase o "join" X.env (eval o X.env) = eval o X.env := by rfl) (hline : (apos.endLine == pos.line) = true := by rfl) :
    PE X (.Call (.Attribute o "join" apos) [e] [] pos) (lE X.K E (xOp2S dJoin to te)) :=
  xe_s1 F.slot_str_join F.type_str_join mt_join (imp_join (K := X.K)) ho he hs hbase hline
def dInSg : D → D → Option D
  | .str a, .str z => match TL.tl a with
    | [c] => some (.bl (decide (c ∈ TL.tl z)))
    | _ => none
  | _, _ => none
def dNotInSg (x y : D) : Option D := match dInSg x y with
  | some (.bl b) => some (.bl (!b))
  | _ => none
theorem dInSg_of {x y d : D} (h : dInSg x y = some d) : ∃ (c : Nat) (z : Str), x = .str ⟨#[c]⟩ ∧ y = .str z ∧ d = .bl (decide (c ∈ TL.tl z)) := by
  unfold dInSg at h
  cases x with
  | str a =>
    cases y with
    | str z =>
      simp only at h
      cases hc : TL.tl a with
      | nil => rw [hc] at h; cases h
      | cons c r =>
        cases r with
        | nil =>
          rw [hc] at h
          cases h
          have e : a = (⟨#[c]⟩ : Str) := TL.ext_tl (x := a) (y := ⟨#[c]⟩) hc
          subst e
          exact ⟨c, z, rfl, rfl, rfl⟩
        | cons c2 r => rw [hc] at h; cases h
    | _ => cases h
  | _ => cases h
theorem imp_inSg {K : PySem.W.Frag} : Imp2 K dInSg (fun x y H Q => ∃ (c : Nat) (z : Str), x = .str ⟨#[c]⟩ ∧ y = .str z ∧ Q (.bl (decide (c ∈ z.cps.toList))) H) := fun F H v w x y d Q ex rv rw e o => by
  obtain ⟨c, z, rfl, rfl, rfl⟩ := dInSg_of e
  cases rv; cases rw
  exact ⟨c, z, rfl, rfl, o.here ex (.bl _)⟩
theorem imp_notInSg {K : PySem.W.Frag} : Imp2 K dNotInSg (fun x y H Q => ∃ (c : Nat) (z : Str), x = .str ⟨#[c]⟩ ∧ y = .str z ∧ Q (.bl (!decide (c ∈ z.cps.toList))) H) := fun F H v w x y d Q ex rv rw e o => by
  unfold dNotInSg at e
  split at e
  · rename_i b q
    cases e
    obtain ⟨c, z, rfl, rfl, q2⟩ := dInSg_of q
    cases q2
    cases rv; cases rw
    exact ⟨c, z, rfl, rfl, o.here ex (.bl _)⟩
  · cases e
/-- int(text) -/
def dIntS : List D → Option D
  | [.str a] => if a.length ≤ 640 then (PySem.intText? a).map .int else none
  | _ => none
theorem imp_intS {K : PySem.W.Frag} : ImpL K dIntS (fun xs H Q => ∃ a n, xs = [.str a] ∧ PySem.intText? a = some n ∧ a.length ≤ 640 ∧ Q (.int n) H) := fun F H vs ds d Q ex ra e o => by
  unfold dIntS at e
  split at e
  · split at e
    · rename_i a hl
      cases q : PySem.intText? a with
      | none => rw [q] at e; cases e
      | some n =>
        rw [q] at e; cases e
        cases ra with
        | cons r1 r2 => cases r2; cases r1; exact ⟨a, n, rfl, q, hl, o.here ex (.int _)⟩
    · cases e
  · cases e
/-- text * number -/
def dMulT2 : D → D → Option D
  | .str z, .int k => if 0 ≤ k ∧ k ≤ 4000 ∧ z.length ≤ 1000 then some (.str (mkS (List.replicate k.toNat (TL.tl z)).flatten)) else none
  | _, _ => none
theorem foldl_cat (z : Array Nat) : ∀ (n : Nat) (a : Array Nat), ((List.replicate n z).foldl (· ++ ·) a).toList = a.toList ++ (List.replicate n z.toList).flatten
  | 0, a => by simp
  | n + 1, a => by rw [List.replicate_succ, List.foldl_cons, foldl_cat z n, List.replicate_succ, List.flatten_cons, Array.toList_append, List.append_assoc]
theorem mul_is {z : Str} {k : Int} (h0 : 0 ≤ k) : Txt.mul z k = mkS (List.replicate k.toNat (TL.tl z)).flatten := by
  refine TL.ext_tl ?_
  rw [tl_mkS]
  unfold Txt.mul
  by_cases h1 : k < 1
  · rw [if_pos h1, show k = 0 by omega]; rfl
  · rw [if_neg h1]
    split
    · rename_i h2
      rw [Bool.or_eq_true, beq_iff_eq, beq_iff_eq] at h2
      rcases h2 with rfl | h2
      · simp [TL.tl]
      · have : TL.tl z = [] := by
          rw [TL.len_tl] at h2
          exact List.length_eq_zero_iff.mp h2
        rw [this]
        simp
    · show (((List.replicate k.toNat z.cps).foldl (· ++ ·) #[])).toList = _
      rw [foldl_cat]
      rfl
theorem mulOk_k {z : Str} {k : Int} (h0 : 0 ≤ k) (h1 : k ≤ 4000) (hz : z.length ≤ 1000) : MulOk z k := by
  have hm : z.length * k.toNat ≤ 4000000 := by
    calc z.length * k.toNat ≤ 1000 * 4000 := Nat.mul_le_mul hz (by omega)
      _ = 4000000 := by decide
  refine ⟨by rw [Bool.or_eq_false_iff, decide_eq_false_iff_not, decide_eq_false_iff_not]; omega, fun h _ => ?_, fun _ _ => ?_⟩
  · have : (2 ^ 63 - 1 : Int) / k ≥ 1000 := by
      have := Int.ediv_le_ediv (a := 4000000) (b := 2 ^ 63 - 1) (c := k) (by omega) (by decide)
      have h3 : (1000 : Int) ≤ 4000000 / k := by
        rw [Int.le_ediv_iff_mul_le (by omega)]
        omega
      omega
    omega
  · unfold Builtin.Str.tooLong
    rw [decide_eq_false_iff_not, sizeLine_eq]
    omega
def rMulT2 : R2 := fun x y H Q => ∃ z k, x = .str z ∧ y = .int k ∧ 0 ≤ k ∧ k ≤ 4000 ∧ z.length ≤ 1000 ∧ Q (.str (Txt.mul z k)) H
theorem op_mulT2 : OpR X (binaryOp .Mult) rMulT2 := by
  intro pins s σ H x y v u Q I rx ry h
  obtain ⟨z, k, rfl, rfl, h0, h1, h2, q⟩ := h
  obtain ⟨t, rfl⟩ := rx
  obtain ⟨t', rfl⟩ := ry
  exact SB.mul (mulOk_k h0 h1 h2) fun t2 k => ⟨.str _, H, I.tok _, ⟨t2, rfl⟩, q⟩
theorem imp_mulT2 {K : PySem.W.Frag} : Imp2 K dMulT2 rMulT2 := fun F H v w x y d Q ex rv rw1 e o => by
  unfold dMulT2 at e
  split at e
  · split at e
    · rename_i z k hc
      cases e; cases rv; cases rw1
      exact ⟨z, k, rfl, rfl, hc.1, hc.2.1, hc.2.2, by rw [mul_is hc.1]; exact o.here ex (.str _)⟩
    · cases e
  · cases e
def cutL (z : Str) (lo hi : Option Int) : Str := mkS (cutG (TL.tl z) lo hi)
def dSlS (x : D) (lo hi : Option Int) : Option D := match x with
  | .str z => if z.length ≤ sizeLine then some (.str (cutL z lo hi)) else none
  | _ => none
theorem cutS_is (z : Str) (lo hi : Option Int) : cutS z lo hi = cutL z lo hi := by
  refine TL.ext_tl ?_
  unfold cutS cutL cutG
  rw [tl_mkS, TL.len_tl]
theorem xe_sliceS {e : Expr} {lo hi : Option Expr} {te : XV} {tl th : XP} {p2 : Pos} (he : PE X e (lE X.K E te)) (hl : PO X lo (lPO X.K E tl)) (hu : PO X hi (lPO X.K E th)) : PE X (.Subscript e (.Slice lo hi none p2) pos) (lE X.K E (xSl dSlS te tl th)) := pe_imp (pe_slice sl_str he hl hu) fun σ H Q h => by
  obtain ⟨F, ρ, r, p⟩ := h
  refine ⟨F, ρ, r, (Pend.bind r p).mono fun x ρ1 F1 H1 g1 q v rv => ⟨F1, ρ1, g1.rel, (Pend.bind g1.rel q).mono fun l ρ2 F2 H2 g2 q2 => ⟨F2, ρ2, g2.rel, (Pend.bind g2.rel q2).mono fun u ρ3 F3 H3 g3 q3 => ?_⟩⟩⟩
  obtain ⟨d, e, q4⟩ := q3.lift
  unfold dSlS at e
  split at e
  · split at e
    · rename_i z hz
      cases e
      cases rv
      exact ⟨z, rfl, hz, by rw [cutS_is]; exact (outV_of g3.rel q4).here g3.rel.ex (.str _)⟩
    · cases e
  · cases e
def sgnD (c : Nat) : D := .str ⟨#[c]⟩
def dItSg : D → Option (List D)
  | .str z => some ((TL.tl z).map sgnD)
  | _ => none
def xItSg (t : XV) : XA := fun ρ => (t ρ).bind (lift dItSg)
theorem iters_str {K : PySem.W.Frag} {ρ : Rho} {σ : L2.St} {F H : Hp} (z : Str) : Iters K ρ σ F H ((TL.tl z).map sgnD) (Its z) := by
  intro ρ2 σ2 F2 H2 g
  refine ⟨fun i d hd => ?_, fun i hi => ?_⟩
  · rw [List.getElem?_map] at hd
    cases q : (TL.tl z)[i]? with
    | none => rw [q] at hd; cases hd
    | some c =>
      rw [q] at hd
      cases hd
      have hq : z.cps[i]? = some c := by rw [← Array.getElem?_toList]; exact q
      refine ⟨?_, fun x H3 y => ?_⟩
      · show i < z.cps.size
        by_cases h : i < z.cps.size
        · exact h
        · rw [Array.getElem?_eq_none (by omega)] at hq; cases hq
      · obtain ⟨e, c', h1, rfl⟩ := y
        subst e
        rw [hq] at h1
        cases h1
        exact ⟨F2, Gr.refl g.rel.ex, .str _⟩
  · rw [List.length_map] at hi
    show z.cps.size ≤ i
    exact hi
theorem xi_str {tg e : Expr} {t : XV} (he : PE X e (lE X.K E t)) : PI X tg e (lI X.K E (xItSg t)) := pi_imp (pi_str he) fun σ H R h => by
  obtain ⟨F, ρ, r, p⟩ := h
  refine ⟨F, ρ, r, (Pend.bind r p).mono fun x ρ1 F1 H1 g1 q v rv => ?_⟩
  obtain ⟨d, e, q⟩ := q.lift
  unfold dItSg at e
  split at e
  · cases e
    cases rv
    exact ⟨_, rfl, q F1 H1 (Go.refl g1.rel) _ (iters_str _)⟩
  · cases e
/-- a text that the module holds by a name -/
theorem xe_txt {x : Str} {z : Str} (hg : Gl X x) (hm : ∃ t, X.mg x = some (.str z t)) (hd : (x == ("__debug__" : Str)) = false := by decide) : PE X (.Name x pos) (lE X.K E (xC (.str z))) := by
  obtain ⟨t, hm⟩ := hm
  exact xe_const (pe_glob (v := .str z) hg hm ⟨t, rfl⟩ hd) fun _ => .str z
end
theorem zkp (f : D → D → Option D) (ta tb : XV) (ρ : Rho) : xOp2S f ta tb ρ = (ta ρ).bind fun x ρ1 => if isStr x = true then (tb ρ1).bind (lift (f x)) else .bad := rfl
theorem zkq (z : Str) : isStr (.str z) = true := rfl
theorem zkr (t : XV) (ρ : Rho) : xItSg t ρ = (t ρ).bind (lift dItSg) := rfl
theorem zks (z : Str) : dItSg (.str z) = some ((TL.tl z).map sgnD) := rfl
theorem zku (a b : Str) : dStarts (.str a) (.str b) = some (.bl (TL.pre (TL.tl b) (TL.tl a))) := rfl
theorem zkw (c : Nat) (z : Str) : dInSg (sgnD c) (.str z) = some (.bl (decide (c ∈ TL.tl z))) := rfl
theorem zkx (c : Nat) (z : Str) : dNotInSg (sgnD c) (.str z) = some (.bl (!decide (c ∈ TL.tl z))) := rfl
end G


set_option maxHeartbeats 4000000
namespace G
open PySem PySem.Spec PyProof.Rows L2

end G


set_option maxHeartbeats 4000000
namespace G
open PySem PySem.Spec PyProof.Rows L2

theorem szH {n : Nat} (h : n ≤ 16000000) : n ≤ sizeLine := by rw [sizeLine_eq]; omega
end G


set_option maxHeartbeats 4000000
namespace G
open PySem PySem.Spec PyProof.Rows L2

section
variable {X : Cx}
end
section
variable {X : Cx} {E : EW} {pos : Pos}
end
section
variable (ρ : Rho) (i : Nat)
end
end G


set_option maxHeartbeats 4000000
namespace G
open PySem PySem.Spec PyProof.Rows L2

section
variable {K : PySem.W.Frag} {ρ : Rho} {σ : L2.St} {F H : Hp}
end
section
variable {X : Cx} {E : EW} {fr : Bool} {pos : Pos} {i : Nat}
end
section
variable (ρ : Rho) (i : Nat)
end
end G


set_option maxHeartbeats 4000000
namespace G
open PySem PySem.Spec PyProof.Rows L2

abbrev tx (l : List Nat) : D := .str (mkS l)
theorem mkS_inj {a b : List Nat} : mkS a = mkS b ↔ a = b := ⟨fun h => by have := congrArg TL.tl h; exact this, fun h => by rw [h]⟩
theorem mkS_add (a b : List Nat) : mkS a ++ mkS b = mkS (a ++ b) := TL.ext_tl (by rw [TL.tl_append]; rfl)
theorem tx_add {a b : List Nat} (h : a.length + b.length ≤ 16000000) : dAdd (tx a) (tx b) = some (tx (a ++ b)) := by
  show (if (mkS a).length + (mkS b).length ≤ sizeLine then some (D.str (mkS a ++ mkS b)) else none) = _
  rw [if_pos (by rw [mkS_len, mkS_len]; exact szH h), mkS_add]
theorem tx_len {l : List Nat} (h : l.length ≤ 16000000) : dLen [tx l] = some (.int (l.length : Nat)) := by
  show (if (mkS l).length ≤ sizeLine then some (D.int ((mkS l).length : Nat)) else none) = _
  rw [if_pos (by rw [mkS_len]; exact szH h), mkS_len]
/-- plain signs -/
def OkS (l : List Nat) : Prop := ∀ c ∈ l, c < 256
theorem OkS.app {a b : List Nat} (h : OkS a) (h' : OkS b) : OkS (a ++ b) := fun c hc => (List.mem_append.mp hc).elim (h c) (h' c)
theorem OkS.sub {a b : List Nat} (h : OkS b) (s : ∀ c ∈ a, c ∈ b) : OkS a := fun c hc => h c (s c hc)
theorem strOk_mkS {l : List Nat} (h : OkS l) : PyData.canLay0 (.str (mkS l)) = true := by
  show PyData.strOk (mkS l) = true
  unfold PyData.strOk
  rw [← Array.all_toList]
  simp only [List.all_eq_true]
  intro c hc
  have := h c hc
  simp
  omega
theorem tx_eq {a b : List Nat} (ha : OkS a) (hb : OkS b) : eqD (tx a) (tx b) = some (decide (a = b)) := by
  unfold eqD
  simp only [toPy]
  rw [if_pos ⟨shaped_of (strOk_mkS ha) (by simp [PyData.depth]), shaped_of (strOk_mkS hb) (by simp [PyData.depth])⟩]
  congr 1
  show decide (mkS a = mkS b) = decide (a = b)
  by_cases h : a = b
  · rw [decide_eq_true h, decide_eq_true (mkS_inj.mpr h)]
  · rw [decide_eq_false h, decide_eq_false (fun z => h (mkS_inj.mp z))]
theorem tx_cut {l : List Nat} (lo hi : Option Int) (h : l.length ≤ 16000000) : dSlS (tx l) lo hi = some (tx (cutG l lo hi)) := by
  show (if (mkS l).length ≤ sizeLine then some (D.str (cutL (mkS l) lo hi)) else none) = _
  rw [if_pos (by rw [mkS_len]; exact szH h)]
  rfl
theorem tx_ix {l : List Nat} (i : Int) (h : l.length ≤ 16000000) : dIx (tx l) (.int i) = (atI l i).map fun c => tx [c] := by
  show (if (mkS l).length ≤ sizeLine then (atI (mkS l).cps.toList i).map (fun c => D.str ⟨#[c]⟩) else none) = _
  rw [if_pos (by rw [mkS_len]; exact szH h)]
  rfl
theorem tx_in (c : Nat) (l : List Nat) : dInSg (tx [c]) (tx l) = some (.bl (decide (c ∈ l))) := rfl
theorem tx_notIn (c : Nat) (l : List Nat) : dNotInSg (tx [c]) (tx l) = some (.bl (!decide (c ∈ l))) := rfl
theorem tx_items (l : List Nat) : dItSg (tx l) = some (l.map fun c => tx [c]) := rfl
/-- cut at a sign -/
def sp1 (s : Nat) (l : List Nat) : List (List Nat) := TL.spl [s] 0 [] l
theorem sp1_none {s : Nat} {l : List Nat} (h : s ∉ l) : sp1 s l = [l] := by
  unfold sp1
  rw [TL.spl_last1 h, List.nil_append]
theorem sp1_app {s : Nat} {p : List Nat} (r : List Nat) (h : s ∉ p) : sp1 s (p ++ s :: r) = p :: sp1 s r := by
  unfold sp1
  have := TL.spl_part1 (s := s) (S := []) (p := p) (rest := r) (acc := []) h
  rw [List.nil_append] at this
  exact this
/-- a text without the sign, or what stands ahead of the first one and behind it -/
theorem sign_cases (s : Nat) (l : List Nat) : s ∉ l ∨ ∃ p r, s ∉ p ∧ l = p ++ s :: r := by
  by_cases h : s ∈ l
  · obtain ⟨p, r, e, hp⟩ := List.eq_append_cons_of_mem h
    exact .inr ⟨p, r, hp, e⟩
  · exact .inl h
theorem sp1_len (s : Nat) : ∀ (n : Nat) (l : List Nat), l.length ≤ n → (sp1 s l).length = l.count s + 1
  | 0, l, h => by
    have : l = [] := List.length_eq_zero_iff.mp (by omega)
    subst this
    rfl
  | n + 1, l, h => by
    rcases sign_cases s l with hs | ⟨p, r, hp, rfl⟩
    · rw [sp1_none hs, List.count_eq_zero.mpr hs]
      rfl
    · rw [List.length_append, List.length_cons] at h
      rw [sp1_app r hp, List.length_cons, sp1_len s n r (by omega), List.count_append, List.count_eq_zero.mpr hp, List.count_cons_self]
      omega
theorem sp1_join (s : Nat) : ∀ (n : Nat) (l : List Nat), l.length ≤ n → TL.joinL [s] (sp1 s l) = l
  | 0, l, h => by
    have : l = [] := List.length_eq_zero_iff.mp (by omega)
    subst this
    rfl
  | n + 1, l, h => by
    rcases sign_cases s l with hs | ⟨p, r, hp, rfl⟩
    · rw [sp1_none hs]
      rfl
    · rw [List.length_append, List.length_cons] at h
      rw [sp1_app r hp]
      have ih := sp1_join s n r (by omega)
      cases q : sp1 s r with
      | nil =>
        have := sp1_len s _ r (Nat.le_refl _)
        rw [q] at this
        simp at this
      | cons a b =>
        rw [q] at ih
        show p ++ ([s] ++ TL.joinL [s] (a :: b)) = _
        rw [ih]
        rfl
theorem joinL_sp1 {s : Nat} {ls : List (List Nat)} (hne : ls ≠ []) (h : ∀ p ∈ ls, s ∉ p) : sp1 s (TL.joinL [s] ls) = ls := TL.spl_join hne h
theorem tx_split1 {s : Nat} {l : List Nat} (hs : s < 256) (h : l.length ≤ 15000000) : dSplit (tx l) (tx [s]) = some (.lst ((sp1 s l).map tx)) := by
  have hc : (!((mkS [s]).length == 0) && decide ((mkS l).length + 2 ≤ sizeLine) && (TL.tl (mkS [s])).all (fun c => decide (c < 256))) = true := by
    rw [mkS_len, mkS_len]
    have : decide (l.length + 2 ≤ sizeLine) = true := decide_eq_true (szH (by omega))
    rw [this]
    simp [TL.tl, mkS, hs]
  show (if (!((mkS [s]).length == 0) && decide ((mkS l).length + 2 ≤ sizeLine) && (TL.tl (mkS [s])).all (fun c => decide (c < 256))) = true then some (D.lst ((spL (mkS l) (mkS [s])).map D.str)) else none) = _
  rw [if_pos hc]
  unfold spL
  rw [List.map_map]
  rfl
/-- what stands ahead of a sign, and behind it -/
def pa1 (s : Nat) (l : List Nat) : List D := match TL.par [s] [] l with
  | some (p, q) => [tx p, tx [s], tx q]
  | none => [tx l, tx [], tx []]
theorem pa1_none {s : Nat} {l : List Nat} (h : s ∉ l) : pa1 s l = [tx l, tx [], tx []] := by
  unfold pa1
  rw [TL.par_none1 h]
theorem pa1_app {s : Nat} {p : List Nat} (r : List Nat) (h : s ∉ p) : pa1 s (p ++ s :: r) = [tx p, tx [s], tx r] := by
  unfold pa1
  have := TL.par_part1 (s := s) (S := []) (p := p) (rest := r) (acc := []) h
  rw [List.nil_append] at this
  rw [show p ++ s :: r = p ++ ([s] ++ r) from rfl, this]
theorem tx_part1 {s : Nat} {l : List Nat} (h : l.length ≤ 16000000) : dPart (tx l) (tx [s]) = some (.tup (pa1 s l)) := by
  have hc : (!((mkS [s]).length == 0) && decide ((mkS l).length ≤ sizeLine)) = true := by
    rw [mkS_len, mkS_len, decide_eq_true (szH h)]
    rfl
  show (if (!((mkS [s]).length == 0) && decide ((mkS l).length ≤ sizeLine)) = true then some (D.tup ((par3 (mkS l) (mkS [s])).map D.str)) else none) = _
  rw [if_pos hc]
  unfold par3 pa1
  rw [tl_mkS, tl_mkS]
  cases TL.par [s] [] l with
  | none => rfl
  | some pq => obtain ⟨p, q⟩ := pq; rfl
theorem strsOf_tx (ls : List (List Nat)) : strsOf (ls.map tx) = some (ls.map mkS) := by
  induction ls with
  | nil => rfl
  | cons l ls ih =>
    show (strsOf (ls.map tx)).map (mkS l :: ·) = _
    rw [ih]
    rfl
theorem joinD_tx {a : List Nat} {ls : List (List Nat)} (h : (ls.map (·.length)).sum + ls.length * a.length ≤ 16000000) : joinD (mkS a) (ls.map tx) = some (tx (TL.joinL a ls)) := by
  unfold joinD
  rw [strsOf_tx]
  simp only [Option.bind_some]
  have e1 : ((ls.map mkS).map (·.length)) = ls.map (·.length) := by
    rw [List.map_map]
    exact List.map_congr_left fun l _ => mkS_len l
  rw [if_pos (by rw [e1, List.length_map, mkS_len]; omega)]
  unfold joinS
  rw [tl_mkS, List.map_map]
  congr 3
  exact congrArg _ ((List.map_congr_left fun l _ => rfl).trans (List.map_id _))
theorem tx_join {a : List Nat} {ls : List (List Nat)} (h : (ls.map (·.length)).sum + ls.length * a.length ≤ 16000000) : dJoin (tx a) (.lst (ls.map tx)) = some (tx (TL.joinL a ls)) := joinD_tx h
theorem tx_starts1 (s : Nat) (l : List Nat) : dStarts (tx l) (tx [s]) = some (.bl (decide (l.head? = some s))) := by
  show some (D.bl (TL.pre [s] l)) = _
  congr 2
  cases l with
  | nil => rfl
  | cons c r =>
    show ([c] == [s]) = decide (some c = some s)
    by_cases h : c = s
    · subst h; simp
    · simp [h]
/-- the signs of a whole number -/
def numZ (i : Int) : List Nat := if 0 ≤ i then TL.numL i.toNat else 45 :: TL.numL (-i).toNat
theorem ofString_num (n : Nat) : Str.ofString (toString ((n : Nat) : Int)) = mkS (TL.numL n) := TL.ext_tl (TL.tl_num n)
theorem ofString_numZ (i : Int) : Str.ofString (toString i) = mkS (numZ i) := by
  unfold numZ
  cases i with
  | ofNat n =>
    rw [if_pos (show (0 : Int) ≤ Int.ofNat n from Int.natCast_nonneg n)]
    exact ofString_num n
  | negSucc n =>
    rw [if_neg (by omega)]
    have e : (-(Int.negSucc n)).toNat = n + 1 := by omega
    rw [e]
    refine TL.ext_tl ?_
    rw [TL.tl_ofString, tl_mkS]
    have h := TL.tl_num (n + 1)
    rw [TL.tl_ofString] at h
    rw [← h]
    have e2 : toString (Int.negSucc n) = "-" ++ toString (((n + 1 : Nat)) : Int) := rfl
    rw [e2, String.toList_append]
    rfl
theorem tx_str {i : Int} (h : i.natAbs.log2 < 1920) : dStrI [.int i] = some (tx (numZ i)) := by
  show (if i.natAbs.log2 < 1920 then some (D.str (toString i)) else none) = _
  rw [if_pos h]
  exact congrArg (fun z => some (D.str z)) (ofString_numZ i)
theorem log2_lt {i : Int} (h : i.natAbs < 10 ^ 100) : i.natAbs.log2 < 1920 := by
  by_cases h0 : i.natAbs = 0
  · rw [h0]; decide
  · have := Nat.log2_self_le h0
    refine Classical.byContradiction fun z => ?_
    have z : 1920 ≤ i.natAbs.log2 := Nat.le_of_not_lt z
    have h2 : 2 ^ 1920 ≤ 2 ^ i.natAbs.log2 := Nat.pow_le_pow_right (by decide) z
    have h3 : (10 : Nat) ^ 100 < 2 ^ 1920 := by decide +kernel
    omega
end G


set_option maxHeartbeats 4000000
namespace G
open PySem PySem.Spec PyProof.Rows L2

section
variable {X : Cx} {E : EW} {fr : Bool} {i : Nat} {T : TS} {t : List D → XS}
variable {y : Str} {py spos pos : Pos} {elt tg iter : Expr} {scope : Scope} {own : List (Str × Nat)} {ti : XA} {g : XG} {te : XV} {rest : List Stmt}
end
section
variable {X : Cx} {E : EW} {i j : Nat}
end
section
variable {X : Cx} {E : EW} {fr : Bool} {i : Nat}
end
end G


set_option maxHeartbeats 4000000
namespace G
open PySem PySem.Spec PyProof.Rows L2

section
variable {prog : Program} {w : World} {A : Around} {E : Value → Shared → Prop} {s : Shared}
end
section
variable {X : Cx} {E : EW} {pos : Pos}
end
end G


set_option maxHeartbeats 4000000
namespace G
section
open PySem PySem.W PySem.Calls PyProof.Rows PyProof.V PySem.Spec PySem.SeqAt AutoSeq1 MeetsSeq
variable {prog : Program} {w : World} {A : Around} {E : Value → Shared → Prop} {s : Shared}
end
section
open PySem PySem.Spec PyProof.Rows L2
variable {X : Cx}
end
open PySem PySem.Spec PyProof.Rows L2
end G


set_option maxHeartbeats 4000000
namespace G
open PySem PySem.Spec PyProof.Rows L2

section
variable {X : Cx} {pins : List (Addr × Obj)} {σ : L2.St} {H : Hp} {s : Shared}
end
end G


set_option maxHeartbeats 4000000
namespace G
open PySem PySem.Spec PyProof.Rows L2 LamX

section
variable {X : Cx} {pins : List (Addr × Obj)} {σ : L2.St} {H : Hp} {s : Shared}
end
end G


set_option maxHeartbeats 4000000
namespace G
open PySem PySem.Spec PyProof.Rows L2 LamX

section
variable {P0 : Program} {w : World} {K : PySem.W.Frag} {mg : Str → Option Value} {base : Heap} {cv : String → Value}
end
section
variable {X : Cx} {cv : String → Value} {pos : Pos} {W : WX}
end
end G


set_option maxHeartbeats 4000000
namespace G
open PySem PySem.Spec PyProof.Rows L2 LamX

section
variable {X : Cx} {pins : List (Addr × Obj)} {σ : L2.St} {H : Hp} {s : Shared}
end
section
variable {X : Cx} {E : EW} {pos : Pos}
end
end G


set_option maxHeartbeats 4000000
namespace G
open PySem PySem.Spec PyProof.Rows L2 LamX

end G


set_option maxHeartbeats 4000000
namespace G
open PySem PySem.Spec PyProof.Rows L2 LamX

section
variable {P : Addr} {F1 H1 F' H' : Hp}
end
section
variable {X : Cx} {cv : String → Value} {pos pos2 : Pos} {W : WX} {fr : Bool}
end
section
variable {K : PySem.W.Frag} {E : EW}
end
end G


set_option maxHeartbeats 4000000
namespace G
open PySem PySem.Spec PyProof.Rows L2
section
variable {P : Program} {w : World} {K : PySem.W.Frag} {mg : Str → Option Value} {base : Heap}
end
section
variable {X : Cx} {cv : String → Value} {pos : Pos}
end
end G


set_option maxHeartbeats 4000000
namespace G
open PySem PySem.Spec PyProof.Rows L2

structure GrB2 (b c : Addr) (F H F' H' : Hp) : Prop where
  ex : Same F F'
  sub : Same F' H'
  keep : ∀ a o, a ≠ b → a ≠ c → H a = some o → H' a = some o ∧ (NTup o → F a = none → F' a = none)
/-- the second one's place is told to the def, as a name of it -/
def spP2 (K : PySem.W.Frag) (md : List Bool) (g : Addr → DF) : Sp := fun vs H Q E => ∃ F b c o0 o1 d0 d1 vs' ds, vs = .ref b :: .ref c :: vs' ∧ Same F H ∧ b ≠ c ∧ (F b = none ∧ H b = some o0 ∧ Ro K F b o0 d0) ∧ (F c = none ∧ H c = some o1 ∧ Ro K F c o1 d1) ∧ RaL K F H (fun _ => False) md vs' ds ∧ match g c (d0 :: d1 :: ds) with
  | .ok d [p', l'] => ∀ F' H' o0' o1', GrB2 b c F H F' H' → (F' b = none ∧ H' b = some o0' ∧ Ro K F' b o0' p') → (F' c = none ∧ H' c = some o1' ∧ Ro K F' c o1' l') → ∀ v, Rp K F' v d → Q v H'
  | _ => False
def endA1 (c : Addr) (d : D) : Option Slot → Option Slot → FR
  | some (.own p'), some (.own (.atd a l')) => if a = c then .ok d [p', l'] else .bad
  | _, _ => .bad
def endA (c : Addr) : Fl → FR
  | .ret d ρ => endA1 c d ρ[0]? ρ[1]?
  | _ => .bad
def runA1 (c : Addr) (n : Nat) (body : XS) (d0 d1 : D) : Option (List Slot) → FR
  | some ss => endA c (body (.own d0 :: .own (.atd c d1) :: (ss ++ List.replicate (n - 2 - ss.length) .emp)))
  | none => .bad
def runA (md : List Bool) (n : Nat) (body : XS) : Addr → DF := fun c ds => match ds with
  | d0 :: d1 :: rs => runA1 c n body d0 d1 (ini md rs)
  | _ => .bad
section
variable {K : PySem.W.Frag} {F H F' H' : Hp} {ρ : Rho} {σ : L2.St}
theorem Rel.consOwn {p : Addr} {o : HO} {d : D} (r : Rel K F H ρ σ) (hf : F p = none) (hh : H p = some o) (ro : Ro K F p o d) (no : ¬ Own ρ σ p) (nr : ∀ (j : Nat) (e : D), ρ[j]? = some (.rd e) → False) : Rel K F H (.own d :: ρ) (some (.ref p) :: σ) := by
  refine ⟨r.ex, by rw [List.length_cons, List.length_cons, r.len], fun j s v h1 h2 => ?_, fun j k d1 d2 q h1 h2 h3 h4 => ?_, fun j e q h1 h2 h3 => ?_⟩
  · cases j with
    | zero => simp at h1 h2; subst h1 h2; exact .own hf hh ro
    | succ j => exact r.at' j s v (by simpa using h1) (by simpa using h2)
  · cases j with
    | zero =>
      simp at h3
      subst h3
      cases k with
      | zero => rfl
      | succ k => exact (no ⟨k, d2, by simpa using h2, by simpa using h4⟩).elim
    | succ j =>
      cases k with
      | zero =>
        simp at h4
        subst h4
        exact (no ⟨j, d1, by simpa using h1, by simpa using h3⟩).elim
      | succ k => rw [r.dis j k d1 d2 q (by simpa using h1) (by simpa using h2) (by simpa using h3) (by simpa using h4)]
  · cases j with
    | zero => simp at h1
    | succ j => exact (nr j e (by simpa using h1)).elim
theorem own_cons {p q : Addr} {d : D} (h : Own (.own d :: ρ) (some (.ref p) :: σ) q) : q = p ∨ Own ρ σ q := by
  obtain ⟨j, e, h1, h2⟩ := h
  cases j with
  | zero => simp at h2; exact .inl h2.symm
  | succ j => exact .inr ⟨j, e, by simpa using h1, by simpa using h2⟩
theorem ro_atd {p a : Addr} {o : HO} {d : D} (r : Ro K F p o (.atd a d)) : p = a ∧ Ro K F p o d := by
  cases r with
  | atd r => exact ⟨rfl, r⟩
/-- behind such a call -/
theorem go_bor2 {i j : Nat} {b c : Addr} {o0 o1 : HO} {d0 d1 p' l' : D} (r : Rel K F H ρ σ) (hi : ρ[i]? = some (.own d0)) (hs : σ[i]? = some (some (.ref b))) (hj : ρ[j]? = some (.own d1)) (ht : σ[j]? = some (some (.ref c))) (hij : i ≠ j) (g : GrB2 b c F H F' H') (z0 : F' b = none ∧ H' b = some o0 ∧ Ro K F' b o0 p') (z1 : F' c = none ∧ H' c = some o1 ∧ Ro K F' c o1 l') :
    Go K ρ σ F H ((ρ.set i (.own p')).set j (.own l')) σ F' H' := by
  have look : ∀ {m : Nat} {u : Slot}, ((ρ.set i (.own p')).set j (.own l'))[m]? = some u → (m = j ∧ u = .own l') ∨ (m = i ∧ u = .own p') ∨ (m ≠ j ∧ m ≠ i ∧ ρ[m]? = some u) := fun {m u} h => by
    rcases get_set h with ⟨e, z⟩ | ⟨e, h⟩
    · exact .inl ⟨e.symm, z⟩
    · rcases get_set h with ⟨e2, z⟩ | ⟨e2, h⟩
      · exact .inr (.inl ⟨e2.symm, z⟩)
      · exact .inr (.inr ⟨fun z => e z.symm, fun z => e2 z.symm, h⟩)
  have ownO : ∀ {m : Nat} {e : D}, ((ρ.set i (.own p')).set j (.own l'))[m]? = some (.own e) → ∃ e' : D, ρ[m]? = some (.own e') := fun {m e} h => by
    rcases look h with ⟨rfl, _⟩ | ⟨rfl, _⟩ | ⟨_, _, h⟩
    · exact ⟨_, hj⟩
    · exact ⟨_, hi⟩
    · exact ⟨_, h⟩
  refine ⟨⟨g.sub, by rw [List.length_set, List.length_set]; exact r.len, fun m s v g1 g2 => ?_, fun m k e1 e2 q g1 g2 g3 g4 => ?_, fun m e q g1 g2 g3 => ?_⟩, g.ex, fun a u g1 g2 g3 => ?_, fun q h => ?_, rfl, fun d h => ?_, fun m e h => ?_⟩
  · rcases look g1 with ⟨rfl, rfl⟩ | ⟨rfl, rfl⟩ | ⟨n1, n2, g1⟩
    · rw [ht] at g2; cases g2; exact .own z1.1 z1.2.1 z1.2.2
    · rw [hs] at g2; cases g2; exact .own z0.1 z0.2.1 z0.2.2
    · have z := r.at' m s v g1 g2
      cases z with
      | emp => exact .emp
      | adr => exact .adr
      | val rp => exact .val (rp.mono g.ex)
      | @own p o d y1 y2 y3 =>
        obtain ⟨k1, k2⟩ := g.keep p o (by rintro rfl; exact n2 (r.dis m i _ _ _ g1 hi g2 hs)) (by rintro rfl; exact n1 (r.dis m j _ _ _ g1 hj g2 ht)) y2
        exact .own (k2 y3.nt y1) k1 (y3.mono g.ex)
      | rd ra =>
        refine .rd (ra.step g.ex fun p u hn eq e1 e2 => ?_)
        subst eq
        obtain ⟨k1, k2⟩ := g.keep p u (by rintro rfl; exact r.rdis m _ _ g1 g2 ⟨i, d0, hi, hs⟩) (by rintro rfl; exact r.rdis m _ _ g1 g2 ⟨j, d1, hj, ht⟩) e1
        exact ⟨k1, k2 hn e2⟩
  · obtain ⟨e1', q1⟩ := ownO g1
    obtain ⟨e2', q2⟩ := ownO g2
    exact r.dis m k e1' e2' q q1 q2 g3 g4
  · rcases look g1 with ⟨_, z⟩ | ⟨_, z⟩ | ⟨_, _, g1⟩
    · cases z
    · cases z
    · refine r.rdis m e q g1 g2 ?_
      obtain ⟨k, e', k1, k2⟩ := g3
      obtain ⟨e2, q2⟩ := ownO k1
      exact ⟨k, e2, q2, k2⟩
  · obtain ⟨k1, k2⟩ := g.keep a u (by rintro rfl; exact g3 ⟨i, d0, hi, hs⟩) (by rintro rfl; exact g3 ⟨j, d1, hj, ht⟩) g1
    exact ⟨k1, fun n => k2 n g2⟩
  · obtain ⟨m, e, q1, q2⟩ := h
    obtain ⟨e', q1⟩ := ownO q1
    exact .inl ⟨m, e', q1, q2⟩
  · by_cases h0j : j = 0
    · subst h0j
      exact ⟨l', List.getElem?_set_self (by rw [List.length_set]; exact (List.getElem?_eq_some_iff.mp h).1)⟩
    · rw [List.getElem?_set_ne h0j]
      by_cases h0 : i = 0
      · subst h0
        exact ⟨p', List.getElem?_set_self (List.getElem?_eq_some_iff.mp h).1⟩
      · exact ⟨d, by rw [List.getElem?_set_ne h0]; exact h⟩
  · rcases look h with ⟨_, q⟩ | ⟨_, q⟩ | ⟨_, _, h⟩
    · cases q
    · cases q
    · exact ⟨h, rfl⟩
end
section
variable {P : Program} {w : World} {K : PySem.W.Frag} {mg : Str → Option Value} {base : Heap} {cv : String → Value}
theorem ini_vals {F H : Hp} {no : Addr → Prop} : ∀ {md : List Bool} {vs : List V} {ds : List D} {ss : List Slot}, RaL K F H no md vs ds → md.all (fun b => !b) = true → ini md ds = some ss → ∀ (j : Nat) (e : D), ss[j]? ≠ some (.rd e)
  | _, _, _, _, .nil, _, h, j, e => by cases h; simp
  | _, _, _, _, .val r t, m, h, j, e => by
    rw [List.all_cons, Bool.and_eq_true] at m
    unfold ini at h
    obtain ⟨ss', h1, rfl⟩ := Option.map_eq_some_iff.mp h
    cases j with
    | zero => unfold Slot.of; simp
    | succ j => simpa using ini_vals t m.2 h1 j e
  | _, _, _, _, .rd r n t, m, _, _, _ => by
    rw [List.all_cons, Bool.and_eq_true] at m
    cases m.1
theorem fn_A {x qual : Str} {st : Stmt} {f : Addr} {fd : FuncData} {N ps : List Str} {k n : Nat} {body : XS} (md : List Bool) (FN : Fun K x qual st f fd) (S : FnScope N ps (defScope st)) (g : Addr → DF) (hn : N.length = n) (hg : g = runA md n body) (hp : ps.length ≤ n) (hm : md.length + 2 = ps.length) (hmd : md.all (fun b => !b) = true)
    (hbody : ∀ (cdv : Value) (A : Around) (outer : List Env) (s : Shared) (H : Hp) (E : XK), Room k (A.deeper (envOfC qual (defScope st) s.heap.objs.size f cdv)) →
      PSs (cxOf (L2.CX P w) P w K mg base N qual (defScope st) f cdv A outer s H E) (defBody st) (lS K (EX cv E) false body)) : FnOk P w K mg base (L2.CX P w) (k + 1) f fd ps (spP2 K md g) := by
  subst hg hn
  have len : ∀ vs H Q E, spP2 K md (runA md N.length body) vs H Q E → vs.length = ps.length := fun vs H Q E h => by
    obtain ⟨F, b, c, o0, o1, d0, d1, vs', ds, rfl, _, _, _, _, ra, _⟩ := h
    rw [List.length_cons, List.length_cons, ra.len.1, ← hm]
  refine FN.okX S len fun cdv A outer s H vs Q E hr h => ⟨_, hbody cdv A outer s H E hr, ?_⟩
  have hlen := len vs H Q E h
  obtain ⟨F, b, c, o0, o1, d0, d1, vs', ds, rfl, ex, hbc, ⟨b1, b2, b3⟩, ⟨c1, c2, c3⟩, ra, h⟩ := h
  unfold runA runA1 at h
  simp only at h
  cases hi : ini md ds with
  | none => rw [hi] at h; exact h.elim
  | some ss =>
  rw [hi] at h
  simp only at h
  have hss : ss.length = vs'.length := (ini_len hi).trans ra.len.1.symm
  rw [List.length_cons, List.length_cons] at hlen
  have hvn : vs'.length ≤ N.length - 2 := by omega
  obtain ⟨r0, no0, _, _⟩ := start_vals (n := N.length - 2) ex ra hi hvn
  have nrd : ∀ (j : Nat) (e : D), (ss ++ List.replicate (N.length - 2 - ss.length) Slot.emp)[j]? = some (.rd e) → False := fun j e z => by
    by_cases hj : j < ss.length
    · rw [List.getElem?_append_left hj] at z
      exact ini_vals ra hmd hi j e z
    · rw [List.getElem?_append_right (by omega), List.getElem?_replicate] at z
      split at z <;> cases z
  have rc := r0.consOwn (p := c) (o := o1) (d := .atd c d1) c1 c2 (.atd c3) (no0 c) nrd
  have noB : ¬ Own (.own (.atd c d1) :: (ss ++ List.replicate (N.length - 2 - ss.length) Slot.emp)) (some (.ref c) :: (vs'.map some ++ List.replicate (N.length - 2 - vs'.length) none)) b := fun z => by
    rcases own_cons z with z | z
    · exact hbc z
    · exact no0 b z
  have rb := rc.consOwn b1 b2 b3 noB (fun j e z => by
    cases j with
    | zero => simp at z
    | succ j => exact nrd j e (by simpa using z))
  have es : L2.start N (.ref b :: .ref c :: vs') = some (.ref b) :: some (.ref c) :: (vs'.map some ++ List.replicate (N.length - 2 - vs'.length) none) := by
    unfold L2.start
    rw [List.map_cons, List.map_cons, List.length_cons, List.length_cons, show N.length - (vs'.length + 1 + 1) = N.length - 2 - vs'.length by omega]
    rfl
  rw [es]
  refine ⟨F, _, rb, ?_⟩
  have only : ∀ q, Own (.own d0 :: .own (.atd c d1) :: (ss ++ List.replicate (N.length - 2 - ss.length) Slot.emp)) (some (.ref b) :: some (.ref c) :: (vs'.map some ++ List.replicate (N.length - 2 - vs'.length) none)) q → q = b ∨ q = c := fun q z => by
    rcases own_cons z with z | z
    · exact .inl z
    · rcases own_cons z with z | z
      · exact .inr z
      · exact (no0 q z).elim
  unfold endA at h
  unfold PendS
  split <;> rename_i e <;> simp only [e] at h
  rename_i d ρ'
  refine ⟨fun _ v σ' F' H' g rv => ?_, fun ef => by cases ef⟩
  unfold endA1 at h
  cases e0 : ρ'[0]? with
  | none => simp only [e0] at h
  | some s0 =>
  cases s0 with
  | own p' =>
    cases e1 : ρ'[1]? with
    | none => simp only [e0, e1] at h
    | some s1 =>
    cases s1 with
    | own u =>
      cases u with
      | atd a l' =>
        simp only [e0, e1] at h
        by_cases hac : a = c
        · subst hac
          simp only [if_true] at h
          obtain ⟨q0, y0, m1, m2, m3, m4⟩ := g.rel.own e0
          rw [g.low] at m1
          simp at m1
          subst m1
          obtain ⟨q1, y1, n1, n2, n3, n4⟩ := g.rel.own e1
          obtain ⟨rfl, n5⟩ := ro_atd n4
          refine h F' H' y0 y1 ⟨g.ex, g.rel.ex, fun z o hz1 hz2 hz => ?_⟩ ⟨m2, m3, m4⟩ ⟨n2, n3, n5⟩ v rv
          have hn : ¬ Own (.own d0 :: .own (.atd q1 d1) :: (ss ++ List.replicate (N.length - 2 - ss.length) Slot.emp)) (some (.ref b) :: some (.ref q1) :: (vs'.map some ++ List.replicate (N.length - 2 - vs'.length) none)) z := fun y => (only z y).elim hz1 hz2
          exact ⟨g.sameH rb hz hn, fun n e2 => (g.keep z o hz e2 hn).2 n⟩
        · simp only [if_neg hac] at h
      | _ => simp only [e0, e1] at h
    | _ => simp only [e0, e1] at h
  | _ => simp only [e0] at h
end
theorem fb_A {P : Program} {w : World} {K : PySem.W.Frag} {mg : Str → Option Value} {base : Heap} {k : Nat} {f : Addr} {fd : FuncData} {ps : List Str} {md : List Bool} {g : Addr → DF} (hg : g = fun _ _ => .bad) : FnOk P w K mg base (L2.CX P w) k f fd ps (spP2 K md g) := by
  subst hg
  refine ⟨fun vs H Q E h => ?_, fun A outer s H args us vs Q E r e b rv h => ?_⟩
  · obtain ⟨_, _, _, _, _, _, _, _, _, _, _, _, _, _, _, h⟩ := h
    exact h.elim
  · obtain ⟨_, _, _, _, _, _, _, _, _, _, _, _, _, _, _, h⟩ := h
    exact h.elim
def resA (a : Addr) (ρ : Rho) : FR → Res D
  | .ok d [p', l'] => .ok d ((ρ.set 0 (.own p')).set 1 (.own (.atd a l')))
  | _ => .bad
def callA1 (g : Addr → DF) (ds : List D) (ρ : Rho) : Option Slot → Option Slot → Res D
  | some (.own d0), some (.own (.atd a d1)) => resA a ρ (g a (d0 :: d1 :: ds))
  | _, _ => .bad
def callA2 (g : Addr → DF) : List D → Rho → Res D := fun ds ρ => callA1 g ds ρ ρ[0]? ρ[1]?
def callA0 (g : Addr → DF) (t : XA) (ρ : Rho) : Option Slot → Option Slot → Res D
  | some (.own _), some (.own _) => (t ρ).bind (callA2 g)
  | _, _ => .bad
def xCallA (g : Addr → DF) (t : XA) : XV := fun ρ => callA0 g t ρ ρ[0]? ρ[1]?
section
variable {X : Cx} {cv : String → Value} {pos : Pos} {W : WX}
theorem callA_of {md : List Bool} {g : Addr → DF} {t : XA} {σ : L2.St} {H : Hp} {Q : VK} (h : lE X.K (EWx cv W) (xCallA g t) σ H Q) : tCallS (spP2 X.K md g) (WE W) (tCons (tVar 0) (tCons (tVar 1) (lM X.K (EWx cv W) 0 md t))) σ H Q := by
  obtain ⟨F, ρ, r, p⟩ := h
  have pb : ∃ d e, ρ[0]? = some (.own d) ∧ ρ[1]? = some (.own e) ∧ Pend X.K (EWx cv W) (fun ρ => (t ρ).bind (callA2 g)) ρ σ F H fun d ρ' F' H' => ∀ v, Rp X.K F' v d → Q v H' := by
    unfold Pend xCallA at p
    cases e0 : ρ[0]? with
    | none => simp only [e0, callA0] at p
    | some s0 =>
    cases s0 with
    | own d =>
      cases e1 : ρ[1]? with
      | none => simp only [e0, e1, callA0] at p
      | some s1 =>
      cases s1 with
      | own e =>
        simp only [e0, e1, callA0] at p
        exact ⟨d, e, rfl, rfl, by unfold Pend; exact p⟩
      | _ => simp only [e0, e1, callA0] at p
    | _ => simp only [e0, callA0] at p
  obtain ⟨d00, d11, w0, w1, p'⟩ := pb
  obtain ⟨b, o, h1, _⟩ := r.own w0
  obtain ⟨c, o', h2, _⟩ := r.own w1
  refine ⟨.ref b, h1, .ref c, h2, F, ρ, r, (Pend.bind r p').mono fun ds ρ1 F1 H1 g1 q vs ra => ?_⟩
  unfold Pend callA2 at q
  cases e0 : ρ1[0]? with
  | none => simp only [e0, callA1] at q
  | some s0 =>
  cases s0 with
  | own d0 =>
    cases e1 : ρ1[1]? with
    | none => simp only [e0, e1, callA1] at q
    | some s1 =>
    cases s1 with
    | own u =>
      cases u with
      | atd a d1 =>
        simp only [e0, e1, callA1] at q
        obtain ⟨b1, o0, k1, k2, k3, k4⟩ := g1.rel.own e0
        obtain ⟨c1, o1, m1, m2, m3, m4⟩ := g1.rel.own e1
        rw [h1] at k1
        cases k1
        rw [h2] at m1
        cases m1
        obtain ⟨rfl, m5⟩ := ro_atd m4
        have hbc : b ≠ c := fun z => by
          subst z
          have := g1.rel.dis 0 1 _ _ b e0 e1 h1 h2
          cases this
        refine ⟨F1, b, c, o0, o1, d0, d1, vs, ds, rfl, g1.rel.ex, hbc, ⟨k2, k3, k4⟩, ⟨m2, m3, m5⟩, ra.ral g1.rel, ?_⟩
        unfold resA at q
        split <;> rename_i e2 <;> simp only [e2] at q
        intro F2 H2 o0' o1' gr z0 z1
        exact q F2 H2 (go_bor2 g1.rel e0 h1 e1 h2 (by decide) gr z0 ⟨z1.1, z1.2.1, .atd z1.2.2⟩)
      | _ => simp only [e0, e1, callA1] at q
    | _ => simp only [e0, e1, callA1] at q
  | _ => simp only [e0, callA1] at q
theorem xe_callA {md : List Bool} {k : Nat} {f : Addr} {fd : FuncData} {ps : List Str} {g : Addr → DF} {x y0 y1 : Str} {p q0 q1 : Pos} {es : List Expr} {t : XA} (tk : Takes X W) (FN : FnOk X.prog X.w X.K X.mg X.base (L2.CX X.prog X.w) k f fd ps (spP2 X.K md g)) (hr : Room k X.A) (hg : Gl X x) (hm : X.mg x = some (.ref f)) (hk : PySem.W.keepIn X.K (.ref f) = true) (hb : Binds X.K fd ps [])
    (h0 : PE X (.Name y0 q0) (tVar 0)) (h1 : PE X (.Name y1 q1) (tVar 1)) (ha : PA X es (lM X.K (EWx cv W) 0 md t)) (hdb : (x == ("__debug__" : Str)) = false := by decide)
    (he0 : starEach (.Name y0 q0 :: .Name y1 q1 :: es) X.env = (false, eval (.Name y0 q0) X.env) :: starEach (.Name y1 q1 :: es) X.env := by rfl) (he1 : starEach (.Name y1 q1 :: es) X.env = (false, eval (.Name y1 q1) X.env) :: starEach es X.env := by rfl)
    (hpl : (backTo pos (starEach (.Name y1 q1 :: es) X.env)).any (·.1) = false := by rfl) :
    PE X (.Call (.Name x p) (.Name y0 q0 :: .Name y1 q1 :: es) [] pos) (lE X.K (EWx cv W) (xCallA g t)) := pe_imp (pe_callS FN hr hg hm hk hb (passAt tk) (pa_cons h0 (pa_cons h1 ha he1) he0) hdb he0 hpl) fun σ H Q h => callA_of h
end
def ixA1 (j : Int) (ρ : Rho) : Option Slot → Res D
  | some (.own (.atd _ (.lst ds))) => liftO (atI ds j) ρ
  | _ => .bad
def xIxA (i : Nat) (j : Int) : XV := fun ρ => ixA1 j ρ ρ[i]?
def setA2 (i : Nat) (a : Addr) (ρ : Rho) : Option (List D) → Fl
  | some ds' => .nx (ρ.set i (.own (.atd a (.lst ds'))))
  | none => .bad
def setA1 (i : Nat) (j : Int) (d : D) (ρ : Rho) : Option Slot → Fl
  | some (.own (.atd a (.lst ds))) => setA2 i a ρ (dSetAt ds (.int j) d)
  | _ => .bad
def xSetIxA (i : Nat) (j : Int) (te : XV) : XS := fun ρ => (te ρ).fl fun d ρ1 => setA1 i j d ρ1 ρ1[i]?
section
variable {X : Cx} {E : EW} {pos : Pos} {fr : Bool}
theorem atd_or (s : Option Slot) : (∃ a ds, s = some (.own (.atd a (.lst ds)))) ∨ ((∀ j ρ, ixA1 j ρ s = .bad) ∧ ∀ i j d ρ, setA1 i j d ρ s = .bad) := by
  by_cases h : ∃ a ds, s = some (.own (.atd a (.lst ds)))
  · exact .inl h
  · refine .inr ⟨fun j ρ => ?_, fun i j d ρ => ?_⟩
    · unfold ixA1
      split
      · exact absurd ⟨_, _, rfl⟩ h
      · rfl
    · unfold setA1
      split
      · exact absurd ⟨_, _, rfl⟩ h
      · rfl
theorem xe_ixA {i : Nat} {j : Int} {kk : Nat} {x : Str} {xp kp : Pos} (ho : PE X (.Name x xp) (tVar i)) (hs : PlainIx (.Constant (.int j) kk kp)) : PE X (.Subscript (.Name x xp) (.Constant (.int j) kk kp) pos) (lE X.K E (xIxA i j)) := pe_imp (pe_ix ix_list ho pe_int hs) fun σ H Q h => by
  obtain ⟨F, ρ, r, p⟩ := h
  rcases atd_or ρ[i]? with ⟨a, ds, e⟩ | ⟨e, _⟩
  rotate_left
  · unfold Pend xIxA at p
    simp only [e] at p
  unfold Pend xIxA at p
  simp only [e, ixA1] at p
  cases ha : atI ds j with
  | none => simp only [ha, liftO] at p
  | some d =>
    simp only [ha, liftO] at p
    obtain ⟨b, u, h1, h2, h3, h4⟩ := r.own e
    obtain ⟨rfl, h5⟩ := ro_atd h4
    cases h5 with
    | lst ra =>
      obtain ⟨v, hv, rv⟩ := atI_rp ra ha
      exact ⟨.ref b, h1, b, _, j, v, rfl, rfl, SqL.of h3, hv, p F H (Go.refl r) v rv⟩
theorem xs_setIxA {i : Nat} {j : Int} {kk : Nat} {x : Str} {e : Expr} {te : XV} {xp sp kp : Pos} (ho : PE X (.Name x xp) (tVar i)) (he : PE X e (lE X.K E te))
    (ha : ∀ v, assign (.Subscript (.Name x xp) (.Constant (.int j) kk kp) sp) X.env v = (do
      let ov ← holding [v] (eval (.Name x xp) X.env)
      let iv ← holding [v, ov] (eval (.Constant (.int j) kk kp) X.env)
      standAt sp
      holding [v, ov, iv] (setItem ov iv v)
      release [v, ov, iv] []) := by intro _; rfl)
    (hs : swapsWithSole [.Subscript (.Name x xp) (.Constant (.int j) kk kp) sp] e pos.line X.env = pure false := by rfl) (hw : swappedStores [.Subscript (.Name x xp) (.Constant (.int j) kk kp) sp] e X.env = pure none := by rfl)
    (h1 : (assignEach [.Subscript (.Name x xp) (.Constant (.int j) kk kp) sp] X.env).map (·.2) = [assign (.Subscript (.Name x xp) (.Constant (.int j) kk kp) sp) X.env] := by rfl) :
    PS X (.Assign [.Subscript (.Name x xp) (.Constant (.int j) kk kp) sp] e pos) (lS X.K E fr (xSetIxA i j te)) := ps_imp (ps_asg he (pg_sub ho pe_int set_list ha) hs hw h1) fun C σ H h => by
  obtain ⟨F, ρ, r, p⟩ := h
  refine ⟨F, ρ, r, (PendS.fl r p).mono fun d ρ1 F1 H1 g1 q v rv => ?_⟩
  rcases atd_or ρ1[i]? with ⟨a, ds, e1⟩ | ⟨_, e1⟩
  rotate_left
  · unfold PendS at q
    simp only [e1] at q
  unfold PendS at q
  simp only [e1, setA1] at q
  cases e2 : dSetAt ds (.int j) d with
  | none => simp only [e2, setA2] at q
  | some ds' =>
    simp only [e2, setA2] at q
    obtain ⟨b, u, k1, k2, k3, k4⟩ := g1.rel.own e1
    obtain ⟨rfl, k5⟩ := ro_atd k4
    cases k5 with
    | @lst xs1 _ ra =>
    unfold dSetAt at e2
    simp only at e2
    cases e3 : ixN ds.length j with
    | none => rw [e3] at e2; cases e2
    | some m =>
      rw [e3] at e2
      cases e2
      exact ⟨.ref b, k1, b, xs1, j, m, rfl, rfl, k3, by rw [ra.length]; exact e3, q σ F1 _ (Go.mut g1.rel e1 k1 k2 k3 (.atd (.lst (RpAll.set rv m ra))))⟩
end
def TAok (g : Addr → DF) (d0 d1 : D) (ds : List D) (x : D × D) : Prop := ∀ c, ∃ l', g c (d0 :: d1 :: ds) = .ok x.1 [x.2, l']
open Classical in
noncomputable def pickTA (g : Addr → DF) (d0 d1 : D) (ds : List D) : Option (D × D) := if h : ∃ x, TAok g d0 d1 ds x then some (Classical.choose h) else none
theorem pickTA_of {g : Addr → DF} {d0 d1 : D} {ds : List D} {x : D × D} (h : pickTA g d0 d1 ds = some x) : TAok g d0 d1 ds x := by
  unfold pickTA at h
  split at h
  · rename_i hx
    cases h
    exact Classical.choose_spec hx
  · cases h
theorem pickTA_ok {g : Addr → DF} {d0 d1 : D} {ds : List D} {x : D × D} (h : TAok g d0 d1 ds x) : pickTA g d0 d1 ds = some x := by
  have hx : ∃ x, TAok g d0 d1 ds x := ⟨x, h⟩
  unfold pickTA
  rw [dif_pos hx]
  obtain ⟨l1, e1⟩ := Classical.choose_spec hx 0
  obtain ⟨l2, e2⟩ := h 0
  rw [e1] at e2
  injection e2 with q1 q2
  injection q2 with q2 _
  exact congrArg some (Prod.ext q1 q2)
def resTA (i : Nat) (ρ : Rho) : Option (D × D) → Res D
  | some x => .ok x.1 (ρ.set i (.own x.2))
  | none => .bad
noncomputable def callTA3 (i : Nat) (g : Addr → DF) (d1 : D) (ds : List D) (ρ : Rho) : Option D → Res D
  | some d0 => resTA i ρ (pickTA g d0 d1 ds)
  | none => .bad
noncomputable def callTA2 (i : Nat) (g : Addr → DF) (d1 : D) : List D → Rho → Res D := fun ds ρ => callTA3 i g d1 ds ρ (ownD i ρ)
noncomputable def callTA1 (i : Nat) (g : Addr → DF) (t : XA) : D → Rho → Res D := fun d1 ρ => (t ρ).bind (callTA2 i g d1)
noncomputable def xCallTA (i : Nat) (g : Addr → DF) (tn : XV) (t : XA) : XV := fun ρ => match ownD i ρ with
  | none => .bad
  | some _ => (tn ρ).bind (callTA1 i g t)
section
variable {X : Cx} {cv : String → Value} {pos : Pos} {W : WX}
theorem callTA_of {ban : Nat} {md : List Bool} {g : Addr → DF} {i : Nat} {tn : XV} {t : XA} {σ : L2.St} {H : Hp} {Q : VK} (h : lE X.K (EWx cv W) (xCallTA i g tn t) σ H Q) : tCallS (spP2 X.K md g) (WE W) (tCons (tVar i) (tCons (lN X.K (EWx cv W) tn) (lM X.K (EWx cv W) ban md t))) σ H Q := by
  obtain ⟨F, ρ, r, p⟩ := h
  unfold Pend xCallTA at p
  cases e0 : ownD i ρ with
  | none => simp only [e0] at p
  | some d00 =>
  simp only [e0] at p
  obtain ⟨b, o0, w1, _⟩ := r.own (ownD_of e0)
  refine ⟨.ref b, w1, ?_⟩
  cases e1 : tn ρ with
  | bad => simp only [e1, Res.bind] at p
  | exc c ρ1 => simp only [e1, Res.bind] at p; exact ⟨F, ρ, r, Pend.excE e1 p⟩
  | ok d1 ρ1 =>
    simp only [e1, Res.bind, callTA1] at p
    refine ⟨F, ρ, r, Pend.okE e1 fun F1 H1 g1 c o h1 h2 h3 h4 h5 => ?_⟩
    cases e2 : t ρ1 with
    | bad => simp only [e2] at p
    | exc c ρ2 => simp only [e2] at p; exact ⟨F1, ρ1, g1.rel, Pend.excE e2 fun F2 H2 g2 => p F2 H2 (g1.trans r g2)⟩
    | ok ds ρ2 =>
      simp only [e2, callTA2] at p
      refine ⟨F1, ρ1, g1.rel, Pend.okE e2 fun F2 H2 g2 vs ra => ?_⟩
      cases e3 : ownD i ρ2 with
      | none => simp only [e3, callTA3] at p
      | some d0 =>
      simp only [e3, callTA3] at p
      obtain ⟨b1, o1, y1, y2, y3, y4⟩ := g2.rel.own (ownD_of e3)
      rw [w1] at y1
      cases y1
      obtain ⟨k1, k2'⟩ := g2.keep c o h2 h1 h4
      have k2 := k2' h3.nt
      have nc2 : ¬ Own ρ2 σ c := fun z => by
        rcases g2.own c z with z | z
        · exact h4 z
        · rw [h2] at z; cases z
      have nr2 : ∀ (j : Nat) (d : D), ρ2[j]? = some (.rd d) → σ[j]? = some (some (.ref c)) → False := fun j d z1 z2 => by
        obtain ⟨y1, _⟩ := g2.rdb j d z1
        obtain ⟨y2, _⟩ := g1.rdb j d y1
        rcases h5 with z | z
        · exact r.rdis j d c y2 z2 z
        · exact rd_new r g1 z j d y1 z2
      have hbc : b ≠ c := fun z => nc2 ⟨i, d0, ownD_of e3, by rw [w1, z]⟩
      cases e4 : pickTA g d0 d1 ds with
      | none => simp only [e4, resTA] at p
      | some x =>
      simp only [e4, resTA] at p
      obtain ⟨l', e5⟩ := pickTA_of e4 c
      refine ⟨F2, b, c, o1, o, d0, d1, vs, ds, rfl, g2.rel.ex, hbc, ⟨y2, y3, y4⟩, ⟨k2, k1, h3.mono g2.ex⟩, ra.ral g2.rel, ?_⟩
      simp only [e5]
      intro F3 H3 o0' o1' gr z0 z1 v rv
      have hi := ownD_of e3
      have gg := g1.trans r g2
      have own2 : ∀ {m : Nat} {e : D}, (ρ2.set i (.own x.2))[m]? = some (.own e) → ∃ e' : D, ρ2[m]? = some (.own e') := fun {m e} h => by
        rcases get_set h with ⟨rfl, _⟩ | ⟨_, h⟩
        · exact ⟨_, hi⟩
        · exact ⟨_, h⟩
      refine p F3 H3 ⟨⟨gr.sub, by rw [List.length_set]; exact g2.rel.len, fun j s u q1 q2 => ?_, fun m k e1 e2 q q1 q2 q3 q4 => ?_, fun m e q q1 q2 q3 => ?_⟩, gg.ex.trans gr.ex, fun a u q1 q2 q3 => ?_, fun q h => ?_, gg.low, fun d h => ?_, fun m e h => ?_⟩ v rv
      · rcases get_set q1 with ⟨rfl, rfl⟩ | ⟨hj, q1⟩
        · rw [w1] at q2; cases q2; exact .own z0.1 z0.2.1 z0.2.2
        · have z := g2.rel.at' j s u q1 q2
          cases z with
          | emp => exact .emp
          | adr => exact .adr
          | val rp => exact .val (rp.mono gr.ex)
          | @own p u e m1 m2 m3 =>
            obtain ⟨n1, n2⟩ := gr.keep p u (by rintro rfl; exact hj (g2.rel.dis i j _ _ _ hi q1 w1 q2)) (by rintro rfl; exact nc2 ⟨j, e, q1, q2⟩) m2
            exact .own (n2 m3.nt m1) n1 (m3.mono gr.ex)
          | rd ra =>
            refine .rd (ra.step gr.ex fun p u hn eq e1 e2 => ?_)
            subst eq
            obtain ⟨n1, n2⟩ := gr.keep p u (by rintro rfl; exact g2.rel.rdis j _ _ q1 q2 ⟨i, d0, hi, w1⟩) (by rintro rfl; exact nr2 j _ q1 q2) e1
            exact ⟨n1, n2 hn e2⟩
      · obtain ⟨e1', r1⟩ := own2 q1
        obtain ⟨e2', r2⟩ := own2 q2
        exact g2.rel.dis m k e1' e2' q r1 r2 q3 q4
      · rcases get_set q1 with ⟨_, z⟩ | ⟨hj, q1⟩
        · cases z
        · refine g2.rel.rdis m e q q1 q2 ?_
          obtain ⟨k, e', k1, k2⟩ := q3
          obtain ⟨e2, r2⟩ := own2 k1
          exact ⟨k, e2, r2, k2⟩
      · obtain ⟨m1, m2⟩ := gg.keep a u q1 q2 q3
        have nb : a ≠ b := by
          rintro rfl
          exact q3 ⟨i, d00, ownD_of e0, w1⟩
        have nc : a ≠ c := by
          rintro rfl
          rcases h5 with z | z
          · exact q3 z
          · rw [q1] at z; cases z
        obtain ⟨n1, n2⟩ := gr.keep a u nb nc m1
        exact ⟨n1, fun n => n2 n (m2 n)⟩
      · obtain ⟨m, e, q1, q2⟩ := h
        obtain ⟨e', q1⟩ := own2 q1
        exact gg.own q ⟨m, e', q1, q2⟩
      · obtain ⟨d', hd⟩ := gg.lowO d h
        by_cases hi0 : i = 0
        · subst hi0
          exact ⟨x.2, List.getElem?_set_self (List.getElem?_eq_some_iff.mp hd).1⟩
        · exact ⟨d', by rw [List.getElem?_set_ne hi0]; exact hd⟩
      · rcases get_set h with ⟨_, q⟩ | ⟨_, h⟩
        · cases q
        · exact gg.rdb m e h
theorem xe_callTA {ban : Nat} {md : List Bool} {k i : Nat} {f : Addr} {fd : FuncData} {ps : List Str} {g : Addr → DF} {x y : Str} {p q : Pos} {e : Expr} {es : List Expr} {tn : XV} {t : XA} (tk : Takes X W) (FN : FnOk X.prog X.w X.K X.mg X.base (L2.CX X.prog X.w) k f fd ps (spP2 X.K md g)) (hr : Room k X.A) (hg : Gl X x) (hm : X.mg x = some (.ref f)) (hk : PySem.W.keepIn X.K (.ref f) = true) (hb : Binds X.K fd ps [])
    (h0 : PE X (.Name y q) (tVar i)) (hy : PE X e (lN X.K (EWx cv W) tn)) (ha : PA X es (lM X.K (EWx cv W) ban md t)) (hdb : (x == ("__debug__" : Str)) = false := by decide)
    (he0 : starEach (.Name y q :: e :: es) X.env = (false, eval (.Name y q) X.env) :: starEach (e :: es) X.env := by rfl) (he : starEach (e :: es) X.env = (false, eval e X.env) :: starEach es X.env := by rfl)
    (hpl : (backTo pos (starEach (e :: es) X.env)).any (·.1) = false := by rfl) :
    PE X (.Call (.Name x p) (.Name y q :: e :: es) [] pos) (lE X.K (EWx cv W) (xCallTA i g tn t)) := pe_imp (pe_callS FN hr hg hm hk hb (passAt tk) (pa_cons h0 (pa_cons hy ha he) he0) hdb he0 hpl) fun σ H Q h => callTA_of h
end
theorem zkZ (g : Addr → DF) (t : XA) (ρ : Rho) : xCallA g t ρ = callA0 g t ρ ρ[0]? ρ[1]? := rfl
theorem zla (g : Addr → DF) (t : XA) (ρ : Rho) (d e : D) : callA0 g t ρ (some (.own d)) (some (.own e)) = (t ρ).bind (callA2 g) := rfl
theorem zlb (g : Addr → DF) (ds : List D) (ρ : Rho) : callA2 g ds ρ = callA1 g ds ρ ρ[0]? ρ[1]? := rfl
theorem zlc (g : Addr → DF) (ds : List D) (ρ : Rho) (d0 d1 : D) (a : Addr) : callA1 g ds ρ (some (.own d0)) (some (.own (.atd a d1))) = resA a ρ (g a (d0 :: d1 :: ds)) := rfl
theorem zld (a : Addr) (ρ : Rho) (d p' l' : D) : resA a ρ (.ok d [p', l']) = .ok d ((ρ.set 0 (.own p')).set 1 (.own (.atd a l'))) := rfl
theorem zle (i : Nat) (j : Int) (ρ : Rho) : xIxA i j ρ = ixA1 j ρ ρ[i]? := rfl
theorem zlf (j : Int) (ρ : Rho) (a : Addr) (ds : List D) : ixA1 j ρ (some (.own (.atd a (.lst ds)))) = liftO (atI ds j) ρ := rfl
theorem zlg (i : Nat) (j : Int) (te : XV) (ρ : Rho) : xSetIxA i j te ρ = (te ρ).fl fun d ρ1 => setA1 i j d ρ1 ρ1[i]? := rfl
theorem zlh (i : Nat) (j : Int) (d : D) (ρ : Rho) (a : Addr) (ds : List D) : setA1 i j d ρ (some (.own (.atd a (.lst ds)))) = setA2 i a ρ (dSetAt ds (.int j) d) := rfl
theorem zli (i : Nat) (a : Addr) (ρ : Rho) (ds : List D) : setA2 i a ρ (some ds) = .nx (ρ.set i (.own (.atd a (.lst ds)))) := rfl
theorem zlj (md : List Bool) (n : Nat) (body : XS) (c : Addr) (d0 d1 : D) (rs : List D) : runA md n body c (d0 :: d1 :: rs) = runA1 c n body d0 d1 (ini md rs) := rfl
theorem zlk (c : Addr) (n : Nat) (body : XS) (d0 d1 : D) (ss : List Slot) : runA1 c n body d0 d1 (some ss) = endA c (body (.own d0 :: .own (.atd c d1) :: (ss ++ List.replicate (n - 2 - ss.length) .emp))) := rfl
theorem zll (c : Addr) (d : D) (ρ : Rho) : endA c (.ret d ρ) = endA1 c d ρ[0]? ρ[1]? := rfl
theorem zlm (c : Addr) (d p' l' : D) : endA1 c d (some (.own p')) (some (.own (.atd c l'))) = .ok d [p', l'] := if_pos rfl
end G


set_option maxHeartbeats 4000000
namespace G
open PySem PySem.Spec PyProof.Rows L2

section
variable {K : PySem.W.Frag} {E : EW} {fr : Bool} {i : Nat} {ρ1 : Rho} {σ : L2.St} {F1 H1 F' H' H2 : Hp} {v : V} {d : D}
end
section
variable {X : Cx} {cv : String → Value} {pos : Pos} {W : WX} {fr : Bool}
end
end G


set_option maxHeartbeats 4000000
namespace G
open PySem PySem.Spec PyProof.Rows L2

section
variable {K : PySem.W.Frag} {E : EW}
end
end G


set_option maxHeartbeats 4000000
namespace G
open PySem PySem.Spec PyProof.Rows L2

def ownF : D → Bool
  | .dicT false _ => true
  | _ => false
/-- what its fields hold: values, and dicts of its own at these places -/
inductive Flds (K : PySem.W.Frag) (F H : Hp) : List V → List D → List Addr → Prop
  | nil : Flds K F H [] [] []
  | val {v : V} {vs : List V} {d : D} {ds : List D} {as : List Addr} : ownF d = false → Rp K F v d → Flds K F H vs ds as → Flds K F H (v :: vs) (d :: ds) as
  | own {q : Addr} {o : HO} {vs : List V} {d : D} {ds : List D} {as : List Addr} : ownF d = true → F q = none → H q = some o → Ro K F q o d → Flds K F H vs ds as → Flds K F H (.ref q :: vs) (d :: ds) (q :: as)
structure Cmp (K : PySem.W.Frag) (F H : Hp) (p : Addr) (as : List Addr) (gd : D) : Prop where
  ex : ∃ (C dx : Addr) (c : String) (fs : List (Str × V)) (es : List (Str × D)), gd = .inst c es ∧ ClsAt K c C ∧ H p = some (.ins C dx fs) ∧ fs.map (·.1) = es.map (·.1) ∧ Flds K F H (fs.map (·.2)) (es.map (·.2)) as
  fp : F p = none
  nd : (p :: as).Nodup
theorem ownF_ro {K : PySem.W.Frag} {F : Hp} {q : Addr} {o : HO} {d : D} (h : ownF d = true) (ro : Ro K F q o d) : ∃ kvs, o = .dT kvs := by
  cases ro with
  | @dicT z _ kvs _ _ _ =>
    cases z with
    | false => exact ⟨kvs, rfl⟩
    | true => cases h
  | _ => cases h
section
variable {K : PySem.W.Frag} {F F' H H' : Hp}
theorem Flds.has : ∀ {vs : List V} {ds : List D} {as : List Addr}, Flds K F H vs ds as → ∀ q ∈ as, F q = none ∧ ∃ kvs, H q = some (.dT kvs)
  | _, _, _, .nil, q, h => absurd h List.not_mem_nil
  | _, _, _, .val _ _ t, q, h => t.has q h
  | _, _, _, .own o1 f1 h1 r1 t, q, h => by
    rcases List.mem_cons.mp h with rfl | h
    · obtain ⟨kvs, rfl⟩ := ownF_ro o1 r1
      exact ⟨f1, kvs, h1⟩
    · exact t.has q h
theorem Flds.mono (ex : Same F F') (k : ∀ q o, F q = none → H q = some o → NTup o → (∃ kvs, o = .dT kvs) → F' q = none ∧ H' q = some o) : ∀ {vs : List V} {ds : List D} {as : List Addr}, Flds K F H vs ds as → Flds K F' H' vs ds as
  | _, _, _, .nil => .nil
  | _, _, _, .val o1 r t => .val o1 (r.mono ex) (t.mono ex k)
  | _, _, _, .own o1 f1 h1 r1 t => .own o1 (k _ _ f1 h1 r1.nt (ownF_ro o1 r1)).1 (k _ _ f1 h1 r1.nt (ownF_ro o1 r1)).2 (r1.mono ex) (t.mono ex k)
/-- the same where only the places in as are looked at -/
theorem Flds.mono' (ex : Same F F') : ∀ {vs : List V} {ds : List D} {as : List Addr}, Flds K F H vs ds as → (∀ q ∈ as, F' q = none ∧ H' q = H q) → Flds K F' H' vs ds as
  | _, _, _, .nil, _ => .nil
  | _, _, _, .val o1 r t, k => .val o1 (r.mono ex) (t.mono' ex k)
  | _, _, _, .own o1 f1 h1 r1 t, k => .own o1 (k _ List.mem_cons_self).1 ((k _ List.mem_cons_self).2.trans h1) (r1.mono ex) (t.mono' ex fun q h => k q (List.mem_cons_of_mem _ h))
/-- all frozen -/
theorem Flds.rp (ex : Same F F') : ∀ {vs : List V} {ds : List D} {as : List Addr}, Flds K F H vs ds as → (∀ q ∈ as, F' q = H q) → RpAll K F' vs ds
  | _, _, _, .nil, _ => .nil
  | _, _, _, .val o1 r t, k => .cons (r.mono ex) (t.rp ex k)
  | _, _, _, .own (q := q) (d := d) o1 f1 h1 r1 t, k => by
    refine .cons ?_ (t.rp ex fun q h => k q (List.mem_cons_of_mem _ h))
    have e : F' q = some _ := (k q List.mem_cons_self).trans h1
    cases r1 with
    | @dicT z ob kvs es m1 m2 =>
      exact .dicT (z := z) (o := ob) e m1 (m2.mono ex)
    | _ => cases o1
end
/-- p and its dicts known -/
def Fs (F H : Hp) (S : List Addr) : Hp := fun b => if b ∈ S then H b else F b
structure OG (K : PySem.W.Frag) (ρ0 : Rho) (σ0 : L2.St) (F0 H0 : Hp) (i : Nat) (p : Addr) (as : List Addr) (gd : D) (ρ : Rho) (σ : L2.St) (F H : Hp) : Prop where
  go : Go K ρ0 σ0 F0 H0 (ρ.set i (.adr p)) σ F H
  he : ρ[i]? = some .emp
  cm : Cmp K F H p as gd
  no : ∀ q ∈ p :: as, H0 q = none ∧ F q = none ∧ ¬ Own (ρ.set i (.adr p)) σ q
section
variable {K : PySem.W.Frag} {ρ0 ρ ρ1 : Rho} {σ0 σ σ1 : L2.St} {F0 H0 F H F1 H1 : Hp} {i : Nat} {p : Addr} {as : List Addr} {gd : D}
theorem OG.lt (t : OG K ρ0 σ0 F0 H0 i p as gd ρ σ F H) : i < ρ.length := (List.getElem?_eq_some_iff.mp t.he).1
theorem OG.slot (t : OG K ρ0 σ0 F0 H0 i p as gd ρ σ F H) : σ[i]? = some (some (.ref p)) := by
  have hl := t.go.rel.len
  rw [List.length_set] at hl
  have hl2 : i < σ.length := by have := t.lt; omega
  have hs := List.getElem?_eq_getElem hl2
  have z := t.go.rel.at' i (.adr p) _ (List.getElem?_set_self t.lt) hs
  rw [hs]
  generalize σ[i] = o at z ⊢
  cases z
  rfl
theorem OG.at_ (t : OG K ρ0 σ0 F0 H0 i p as gd ρ σ F H) : ∀ q ∈ p :: as, ∃ o, H q = some o ∧ NTup o ∧ ∀ xs, o ≠ .lst xs := fun q hq => by
  obtain ⟨C, dx, c, fs, es, _, _, h1, _, h2⟩ := t.cm.ex
  rcases List.mem_cons.mp hq with rfl | hq
  · exact ⟨_, h1, fun _ z => (nomatch z), fun _ z => (nomatch z)⟩
  · obtain ⟨_, kvs, h3⟩ := h2.has q hq
    exact ⟨_, h3, fun _ z => (nomatch z), fun _ z => (nomatch z)⟩
/-- an ordinary step with X in its place -/
theorem OG.step (t : OG K ρ0 σ0 F0 H0 i p as gd ρ σ F H) (r0 : Rel K F0 H0 ρ0 σ0) (he : ρ1[i]? = some .emp) (g : Go K (ρ.set i (.adr p)) σ F H (ρ1.set i (.adr p)) σ1 F1 H1) : OG K ρ0 σ0 F0 H0 i p as gd ρ1 σ1 F1 H1 := by
  have r := t.go.rel
  have kp : ∀ q ∈ p :: as, F1 q = none ∧ H1 q = H q ∧ ¬ Own (ρ1.set i (.adr p)) σ1 q := fun q hq => by
    obtain ⟨n1, n2, n3⟩ := t.no q hq
    obtain ⟨o, h1, h2, _⟩ := t.at_ q hq
    obtain ⟨k1, k2⟩ := g.keep q o h1 n2 n3
    exact ⟨k2 h2, k1.trans h1.symm, own_back2 r g h1 n3⟩
  refine ⟨t.go.trans r0 g, he, ?_, fun q hq => ⟨(t.no q hq).1, (kp q hq).1, (kp q hq).2.2⟩⟩
  obtain ⟨C, dx, c, fs, es, e1, e2, e3, e4, e5⟩ := t.cm.ex
  exact ⟨⟨C, dx, c, fs, es, e1, e2, (kp p List.mem_cons_self).2.1.trans e3, e4, e5.mono' g.ex fun q hq => ⟨(kp q (List.mem_cons_of_mem _ hq)).1, (kp q (List.mem_cons_of_mem _ hq)).2.1⟩⟩, (kp p List.mem_cons_self).1, t.cm.nd⟩
end
section
variable {K : PySem.W.Frag} {ρ0 ρ ρ1 : Rho} {σ0 σ σ1 : L2.St} {F0 H0 F H F1 H1 : Hp} {i : Nat} {p : Addr} {as : List Addr} {gd : D}
theorem OG.sameFs (t : OG K ρ0 σ0 F0 H0 i p as gd ρ σ F H) : Same F (Fs F H (p :: as)) := fun a o h => by
  unfold Fs
  rw [if_neg (fun z => by rw [(t.no a z).2.1] at h; cases h)]
  exact h
theorem OG.notRd (t : OG K ρ0 σ0 F0 H0 i p as gd ρ σ F H) (r0 : Rel K F0 H0 ρ0 σ0) {j : Nat} {d : D} {q : Addr} (h1 : (ρ.set i (.adr p))[j]? = some (.rd d)) (h2 : σ[j]? = some (some (.ref q))) (h3 : nofx d = true ∨ True) : Ra K F H (.ref q) d → F q = none → q ∉ p :: as := fun ra hf hq => by
  obtain ⟨k1, k2⟩ := t.go.rdb j d h1
  rw [h2] at k2
  have z := r0.at' j _ _ k1 k2.symm
  cases z with
  | rd z =>
    cases z with
    | val rp nf => exact rp_at (rp.mono t.go.ex) nf hf
    | own _ e _ => rw [(t.no q hq).1] at e; cases e
theorem OG.rpV (t : OG K ρ0 σ0 F0 H0 i p as gd ρ σ F H) : Rp K (Fs F H (p :: as)) (.ref p) gd := by
  obtain ⟨C, dx, c, fs, es, rfl, e2, e3, e4, e5⟩ := t.cm.ex
  have eq : ∀ q ∈ p :: as, Fs F H (p :: as) q = H q := fun q hq => by unfold Fs; rw [if_pos hq]
  exact .inst e2 ((eq p List.mem_cons_self).trans e3) e4 (e5.rp t.sameFs fun q hq => eq q (List.mem_cons_of_mem _ hq))
theorem OG.view (t : OG K ρ0 σ0 F0 H0 i p as gd ρ σ F H) (r0 : Rel K F0 H0 ρ0 σ0) : Rel K (Fs F H (p :: as)) H (ρ.set i (.val gd)) σ := by
  have r := t.go.rel
  have ex := t.sameFs
  have nfs : ∀ q, q ∉ p :: as → F q = none → Fs F H (p :: as) q = none := fun q hq h => by unfold Fs; rw [if_neg hq]; exact h
  have look : ∀ {m : Nat} {u : Slot}, (ρ.set i (.val gd))[m]? = some u → (m = i ∧ u = .val gd) ∨ (m ≠ i ∧ (ρ.set i (.adr p))[m]? = some u) := fun {m u} h => by
    rcases get_set h with ⟨e, z⟩ | ⟨e, h⟩
    · exact .inl ⟨e.symm, z⟩
    · exact .inr ⟨fun z => e z.symm, by rw [List.getElem?_set_ne e]; exact h⟩
  have ownB : ∀ q, Own (ρ.set i (.val gd)) σ q → Own (ρ.set i (.adr p)) σ q := fun q ⟨m, d, h1, h2⟩ => by
    rcases look h1 with ⟨_, e⟩ | ⟨_, h1⟩
    · cases e
    · exact ⟨m, d, h1, h2⟩
  refine ⟨fun a o h => ?_, by rw [List.length_set, ← r.len, List.length_set], fun m u o h1 h2 => ?_, fun m k d1 d2 q h1 h2 h3 h4 => ?_, fun m d q h1 h2 h3 => ?_⟩
  · unfold Fs at h
    split at h
    · exact h
    · exact r.ex a o h
  · rcases look h1 with ⟨rfl, rfl⟩ | ⟨_, h1⟩
    · rw [t.slot] at h2; cases h2; exact .val t.rpV
    · have z := r.at' m u o h1 h2
      cases z with
      | emp => exact .emp
      | adr => exact .adr
      | val rp => exact .val (rp.mono ex)
      | @own b o d z1 z2 z3 => exact .own (nfs b (fun hq => (t.no b hq).2.2 ⟨m, d, h1, h2⟩) z1) z2 (z3.mono ex)
      | @rd v d ra =>
        cases ra with
        | val rp nf => exact .rd (.val (rp.mono ex) nf)
        | @own b o d z1 z2 z3 => exact .rd (.own (nfs b (t.notRd r0 h1 h2 (.inr trivial) (.own z1 z2 z3) z1) z1) z2 (z3.mono ex))
  · rcases look h1 with ⟨_, e⟩ | ⟨_, h1⟩
    · cases e
    · rcases look h2 with ⟨_, e⟩ | ⟨_, h2⟩
      · cases e
      · exact r.dis m k d1 d2 q h1 h2 h3 h4
  · rcases look h1 with ⟨_, e⟩ | ⟨_, h1⟩
    · cases e
    · exact r.rdis m d q h1 h2 (ownB q h3)
end
mutual
/-- numbers, truths, texts, None, tuples and lists of these -/
def cln : D → Bool
  | .non => true
  | .bl _ => true
  | .int _ => true
  | .str _ => true
  | .ty _ => true
  | .tup ds => clns ds
  | .lst ds => clns ds
  | _ => false
def clns : List D → Bool
  | [] => true
  | d :: ds => cln d && clns ds
end
/-- the tuples and lists of F alone -/
def tlF (F : Hp) : Hp := fun a => match F a with
  | some (.tup xs) => some (.tup xs)
  | some (.lst xs) => some (.lst xs)
  | _ => none
theorem tlF_tup {F : Hp} {a : Addr} {xs : List V} (h : F a = some (.tup xs)) : tlF F a = some (.tup xs) := by unfold tlF; rw [h]
theorem tlF_lst {F : Hp} {a : Addr} {xs : List V} (h : F a = some (.lst xs)) : tlF F a = some (.lst xs) := by unfold tlF; rw [h]
theorem tlF_same (F : Hp) : Same (tlF F) F := fun a o h => by
  unfold tlF at h
  split at h
  · rename_i e; cases h; exact e
  · rename_i e; cases h; exact e
  · cases h
theorem tlF_none {F : Hp} {a : Addr} (h : F a = none) : tlF F a = none := by unfold tlF; rw [h]
theorem tlF_not {F : Hp} {a : Addr} {o : HO} (h : F a = some o) (n1 : NTup o) (n2 : ∀ xs, o ≠ .lst xs) : tlF F a = none := by
  unfold tlF
  rw [h]
  split
  · rename_i e; cases e; exact absurd rfl (n1 _)
  · rename_i e; cases e; exact absurd rfl (n2 _)
  · rfl
theorem rp_tlF {K : PySem.W.Frag} {F : Hp} {v : V} {d : D} (h : Rp K F v d) : cln d = true → Rp K (tlF F) v d := by
  refine Rp.rec (motive_1 := fun v d _ => cln d = true → Rp K (tlF F) v d) (motive_2 := fun vs ds _ => clns ds = true → RpAll K (tlF F) vs ds) ?_ ?_ ?_ ?_ ?_ ?_ ?_ ?_ ?_ ?_ ?_ ?_ ?_ ?_ ?_ ?_ ?_ ?_ h
  · exact fun _ => .non
  · exact fun b _ => .bl b
  · exact fun i _ => .int i
  · exact fun x _ => .str x
  · exact fun n _ => .ty n
  · exact fun h _ r z => .tup (tlF_tup h) (r (by unfold cln at z; exact z))
  · exact fun h _ r z => .lst (tlF_lst h) (r (by unfold cln at z; exact z))
  · exact fun _ _ _ z => by unfold cln at z; cases z
  · exact fun _ _ _ _ z => by unfold cln at z; cases z
  · exact fun _ _ _ _ z => by unfold cln at z; cases z
  · exact fun _ _ _ _ _ _ z => by unfold cln at z; cases z
  · exact fun _ _ z => by unfold cln at z; cases z
  · exact fun _ _ _ _ _ z => by unfold cln at z; cases z
  · exact fun _ z => by unfold cln at z; cases z
  · exact fun z => by unfold cln at z; cases z
  · exact fun _ _ z => by unfold cln at z; cases z
  · exact fun _ => .nil
  · exact fun _ _ r1 r2 z => by
      unfold clns at z
      rw [Bool.and_eq_true] at z
      exact .cons (r1 z.1) (r2 z.2)
theorem rpAll_tlF {K : PySem.W.Frag} {F : Hp} : ∀ {vs : List V} {ds : List D}, RpAll K F vs ds → clns ds = true → RpAll K (tlF F) vs ds
  | _, _, .nil, _ => .nil
  | _, _, .cons a b, z => by
    unfold clns at z
    rw [Bool.and_eq_true] at z
    exact .cons (rp_tlF a z.1) (rpAll_tlF b z.2)
/-- what a slot may hold then -/
def clnS : Slot → Bool
  | .val d => cln d
  | .own (.lst ds) => clns ds
  | .own (.dicT _ es) => clns (es.map (·.2))
  | .own _ => false
  | _ => true
def clnR (ρ : Rho) : Bool := ρ.all clnS
theorem ro_tlF {K : PySem.W.Frag} {F : Hp} {q : Addr} {o : HO} {d : D} (r : Ro K F q o d) (h : clnS (.own d) = true) : Ro K (tlF F) q o d := by
  cases r with
  | lst r => exact .lst (rpAll_tlF r h)
  | dicT k r => exact .dicT k (rpAll_tlF r h)
  | _ => cases h
/-- F, and the tuples and lists that came to be known -/
def mrgT (F F1 : Hp) : Hp := fun a => match F a with
  | some o => some o
  | none => tlF F1 a
theorem mrgT_same (F F1 : Hp) : Same F (mrgT F F1) := fun a o h => by unfold mrgT; rw [h]
theorem mrgT_tl {F F1 : Hp} (ex : Same F F1) : Same (tlF F1) (mrgT F F1) := fun a o h => by
  unfold mrgT
  split
  · rename_i o' e
    have := ex _ _ e
    rw [tlF_same F1 a o h] at this
    exact this.symm
  · exact h
theorem mrgT_none {F F1 : Hp} {a : Addr} (h : F a = none) (h1 : F1 a = none) : mrgT F F1 a = none := by
  unfold mrgT
  rw [h]
  exact tlF_none h1
section
variable {K : PySem.W.Frag} {ρ0 ρ ρ1 : Rho} {σ0 σ σ1 : L2.St} {F0 H0 F H F1 H1 : Hp} {i : Nat} {p : Addr} {as : List Addr} {gd : D}
/-- behind an expression that saw X's instance as a value -/
theorem OG.back (t : OG K ρ0 σ0 F0 H0 i p as gd ρ σ F H) (r0 : Rel K F0 H0 ρ0 σ0) (g : Go K (ρ.set i (.val gd)) σ (Fs F H (p :: as)) H ρ1 σ F1 H1) (hc : clnR (ρ1.set i .emp) = true) : OG K ρ0 σ0 F0 H0 i p as gd (ρ1.set i .emp) σ (mrgT F F1) H1 := by
  have r := t.go.rel
  have r1 := g.rel
  have exF : Same F F1 := t.sameFs.trans g.ex
  have hl1 : i < ρ1.length := by rw [r1.len, ← r.len, List.length_set]; exact t.lt
  have eS : (ρ1.set i .emp).set i (.adr p) = ρ1.set i (.adr p) := by rw [List.set_set]
  have fsN : ∀ q, q ∉ p :: as → Fs F H (p :: as) q = F q := fun q hq => by unfold Fs; rw [if_neg hq]
  have fsP : ∀ q ∈ p :: as, Fs F H (p :: as) q = H q := fun q hq => by unfold Fs; rw [if_pos hq]
  have kp : ∀ q ∈ p :: as, H1 q = H q ∧ mrgT F F1 q = none := fun q hq => by
    obtain ⟨o, h1, h2, h3⟩ := t.at_ q hq
    have e1 : F1 q = some o := g.ex _ _ ((fsP q hq).trans h1)
    refine ⟨(r1.ex _ _ e1).trans h1.symm, ?_⟩
    unfold mrgT
    rw [(t.no q hq).2.1]
    exact tlF_not e1 h2 h3
  have look : ∀ {m : Nat} {u : Slot}, (ρ1.set i (.adr p))[m]? = some u → (m = i ∧ u = .adr p) ∨ (m ≠ i ∧ ρ1[m]? = some u ∧ clnS u = true) := fun {m u} h => by
    rcases get_set h with ⟨e, z⟩ | ⟨e, h⟩
    · exact .inl ⟨e.symm, z⟩
    · refine .inr ⟨fun z => e z.symm, h, ?_⟩
      have h2 : (ρ1.set i .emp)[m]? = some u := by rw [List.getElem?_set_ne e]; exact h
      exact List.all_eq_true.mp hc u (List.mem_of_getElem? h2)
  have ownB : ∀ q, Own (ρ1.set i (.adr p)) σ q → Own ρ1 σ q := fun q ⟨m, d, h1, h2⟩ => by
    rcases look h1 with ⟨_, e⟩ | ⟨_, h1, _⟩
    · cases e
    · exact ⟨m, d, h1, h2⟩
  have ownC : ∀ q, Own (ρ.set i (.val gd)) σ q → Own (ρ.set i (.adr p)) σ q := fun q ⟨m, d, h1, h2⟩ => by
    rcases get_set h1 with ⟨_, e⟩ | ⟨e, h1⟩
    · cases e
    · exact ⟨m, d, by rw [List.getElem?_set_ne e]; exact h1, h2⟩
  have st : Go K (ρ.set i (.adr p)) σ F H (ρ1.set i (.adr p)) σ (mrgT F F1) H1 := by
    refine ⟨⟨fun a o h => ?_, by rw [List.length_set]; exact r1.len, fun m u o h1 h2 => ?_, fun m k d1 d2 q h1 h2 h3 h4 => ?_, fun m d q h1 h2 h3 => ?_⟩, mrgT_same F F1, fun a o h1 h2 h3 => ?_, fun q h => ?_, rfl, fun d h => ?_, fun m d h => ?_⟩
    · unfold mrgT at h
      split at h
      · rename_i e; cases h; exact r1.ex _ _ (exF _ _ e)
      · exact r1.ex _ _ (tlF_same F1 a o h)
    · rcases look h1 with ⟨rfl, rfl⟩ | ⟨hm, h1, hu⟩
      · rw [t.slot] at h2; cases h2; exact .adr
      · have z := r1.at' m u o h1 h2
        cases z with
        | emp => exact .emp
        | adr => exact .adr
        | val rp => exact .val ((rp_tlF rp hu).mono (mrgT_tl exF))
        | @own b o d z1 z2 z3 =>
          refine .own (mrgT_none ?_ z1) z2 ((ro_tlF z3 hu).mono (mrgT_tl exF))
          cases e : F b with
          | none => rfl
          | some o' => rw [exF _ _ e] at z1; cases z1
        | @rd v d ra =>
          obtain ⟨k1, k2⟩ := g.rdb m d h1
          have k3 : (ρ.set i (.adr p))[m]? = some (.rd d) := by
            rcases get_set k1 with ⟨_, e⟩ | ⟨e, k1⟩
            · cases e
            · rw [List.getElem?_set_ne e]; exact k1
          have w := r.at' m _ _ k3 h2
          cases w with
          | rd w =>
            cases w with
            | val rp nf => exact .rd (.val (rp.mono (mrgT_same F F1)) nf)
            | @own b o d z1 z2 z3 =>
              have nb := t.notRd r0 k3 h2 (.inr trivial) (.own z1 z2 z3) z1
              have nOw : ¬ Own (ρ.set i (.val gd)) σ b := fun w => r.rdis m d b k3 h2 (ownC b w)
              obtain ⟨y1, y2⟩ := g.keep b o z2 ((fsN b nb).trans z1) nOw
              exact .rd (.own (mrgT_none z1 (y2 z3.nt)) y1 (z3.mono (mrgT_same F F1)))
    · rcases look h1 with ⟨_, e⟩ | ⟨_, h1, _⟩
      · cases e
      · rcases look h2 with ⟨_, e⟩ | ⟨_, h2, _⟩
        · cases e
        · exact r1.dis m k d1 d2 q h1 h2 h3 h4
    · rcases look h1 with ⟨_, e⟩ | ⟨_, h1, _⟩
      · cases e
      · exact r1.rdis m d q h1 h2 (ownB q h3)
    · by_cases ha : a ∈ p :: as
      · exact ⟨(kp a ha).1.trans h1, fun _ => (kp a ha).2⟩
      · obtain ⟨y1, y2⟩ := g.keep a o h1 ((fsN a ha).trans h2) fun w => h3 (ownC a w)
        exact ⟨y1, fun n => mrgT_none h2 (y2 n)⟩
    · rcases g.own q (ownB q h) with w | w
      · exact .inl (ownC q w)
      · exact .inr w
    · by_cases h0 : i = 0
      · subst h0
        have : 0 < ρ.length := t.lt
        rw [List.getElem?_set_self this] at h
        cases h
      · rw [List.getElem?_set_ne h0] at h ⊢
        exact g.lowO d (by rw [List.getElem?_set_ne h0]; exact h)
    · rcases look h with ⟨_, e⟩ | ⟨hm, h, _⟩
      · cases e
      · obtain ⟨k1, k2⟩ := g.rdb m d h
        refine ⟨?_, k2⟩
        rcases get_set k1 with ⟨_, e⟩ | ⟨e, k1⟩
        · cases e
        · rw [List.getElem?_set_ne e]; exact k1
  have he : (ρ1.set i .emp)[i]? = some .emp := List.getElem?_set_self hl1
  exact t.step r0 he (by rw [eS]; exact st)
end
end G


set_option maxHeartbeats 4000000
namespace G
open PySem PySem.Spec PyProof.Rows L2

def NoOwn (ρ : Rho) : Prop := ∀ s ∈ ρ, ∀ d, s ≠ Slot.own d
section
variable {K : PySem.W.Frag} {ρ0 ρ ρ1 : Rho} {σ0 σ σ1 : L2.St} {F0 H0 F H F1 H1 F' H' : Hp} {i : Nat} {p : Addr} {as as' : List Addr} {gd gd' : D}
theorem NoOwn.own (h : NoOwn ρ) (q : Addr) : ¬ Own ρ σ q := fun ⟨m, d, h1, _⟩ => h _ (List.mem_of_getElem? h1) d rfl
end
inductive RF where
  | nx (gd : D) (ρ : Rho) | ret (d gd : D) (ρ : Rho) | bad
abbrev RS := D → Rho → RF
def RF.seq (r : RF) (t : RS) : RF := match r with
  | .nx gd ρ => t gd ρ
  | .ret d gd ρ => .ret d gd ρ
  | .bad => .bad
def OutR (K : PySem.W.Frag) (ρ0 : Rho) (σ0 : L2.St) (F0 H0 : Hp) (i : Nat) (p : Addr) (F : Hp) (C : Ends) : RF → Prop
  | .nx gd ρ => ∀ σ' F' H' as, Same F F' → OG K ρ0 σ0 F0 H0 i p as gd ρ σ' F' H' → C.nx σ' H'
  | .ret d gd ρ => ∀ σ' F' H' as v, Same F F' → OG K ρ0 σ0 F0 H0 i p as gd ρ σ' F' H' → Rp K F' v d → C.rt v H'
  | .bad => False
theorem OutR.mono {K : PySem.W.Frag} {ρ0 : Rho} {σ0 : L2.St} {F0 H0 : Hp} {i : Nat} {p : Addr} {F F1 : Hp} {C : Ends} {r : RF} (s : Same F F1) (h : OutR K ρ0 σ0 F0 H0 i p F C r) : OutR K ρ0 σ0 F0 H0 i p F1 C r := by
  cases r with
  | nx gd ρ => exact fun σ' F' H' as z => h σ' F' H' as (s.trans z)
  | ret d gd ρ => exact fun σ' F' H' as v z => h σ' F' H' as v (s.trans z)
  | bad => exact h
structure RT (X : Cx) (i : Nat) (T : TS) (t : RS) : Prop where
  go : ∀ {ρ0 : Rho} {σ0 : L2.St} {F0 H0 : Hp} {p : Addr} {as : List Addr} {gd : D} {ρ : Rho} {σ : L2.St} {F H : Hp}, Rel X.K F0 H0 ρ0 σ0 → NoOwn ρ0 → OG X.K ρ0 σ0 F0 H0 i p as gd ρ σ F H → ∀ C : Ends, OutR X.K ρ0 σ0 F0 H0 i p F C (t gd ρ) → T C σ H
/-- what an expression tells that sees the instance as a value -/
def rv {α : Type} (i : Nat) (r : Res α) (k : α → Rho → RF) : RF := match r with
  | .ok a ρ1 => if clnR (ρ1.set i .emp) = true then k a (ρ1.set i .emp) else .bad
  | _ => .bad
section
variable {X : Cx} {E : EW} {i : Nat} {T1 T2 : TS} {t1 t2 : RS} {K : PySem.W.Frag} {ρ0 ρ : Rho} {σ0 σ : L2.St} {F0 H0 F H : Hp} {p : Addr} {as : List Addr} {gd : D}
end
section
variable {X : Cx} {E : EW} {i : Nat} {Tb : TS} {tb : RS}
end
end G


set_option maxHeartbeats 4000000
namespace G
open PySem PySem.Spec PyProof.Rows L2

section
variable {K : PySem.W.Frag} {F F' H H' : Hp}
theorem Flds.cons {v : V} {d : D} {an : List Addr} (n : Flds K F H [v] [d] an) {vs : List V} {ds : List D} {as : List Addr} (t : Flds K F H vs ds as) : Flds K F H (v :: vs) (d :: ds) (an ++ as) := by
  cases n with
  | val o1 r t0 => cases t0; exact .val o1 r t
  | own o1 f1 h1 r1 t0 => cases t0; exact .own o1 f1 h1 r1 t
/-- the dict of a field -/
theorem Flds.look {f : Str} {d : D} (ho : ownF d = true) : ∀ {fs : List (Str × V)} {es : List (Str × D)} {as : List Addr}, fs.map (·.1) = es.map (·.1) → Flds K F H (fs.map (·.2)) (es.map (·.2)) as → es.lookup f = some d →
    ∃ q o, fs.lookup f = some (.ref q) ∧ q ∈ as ∧ F q = none ∧ H q = some o ∧ Ro K F q o d
  | [], [], _, _, .nil, e => by cases e
  | [], _ :: _, _, k, _, _ => by cases k
  | _ :: _, [], _, k, _, _ => by cases k
  | (g, x) :: fs, (g', y) :: es, as, k, t, e => by
    rw [List.map_cons, List.map_cons] at k
    injection k with k1 k2
    have k1 : g = g' := k1
    subst k1
    have t : Flds K F H (x :: fs.map (·.2)) (y :: es.map (·.2)) as := t
    simp only [List.lookup_cons] at e ⊢
    by_cases hg : (f == g) = true
    · rw [hg] at e ⊢
      simp only at e ⊢
      cases e
      cases t with
      | val o1 _ _ => rw [ho] at o1; cases o1
      | own o1 f1 h1 r1 t => exact ⟨_, _, rfl, List.mem_cons_self, f1, h1, r1⟩
    · have hg := Bool.eq_false_iff.mpr hg
      rw [hg] at e ⊢
      simp only at e ⊢
      cases t with
      | val o1 _ t => exact Flds.look ho k2 t e
      | own o1 f1 h1 r1 tl =>
        obtain ⟨q, o, e1, e2, e3⟩ := Flds.look ho k2 tl e
        exact ⟨q, o, e1, List.mem_cons_of_mem _ e2, e3⟩
/-- .. which changes -/
theorem Flds.mut {f : Str} {d d' : D} {o' : HO} {q : Addr} (ho : ownF d = true) (ho' : ownF d' = true) (ro : Ro K F q o' d') : ∀ {fs : List (Str × V)} {es : List (Str × D)} {as : List Addr}, fs.map (·.1) = es.map (·.1) → Flds K F H (fs.map (·.2)) (es.map (·.2)) as → as.Nodup → fs.lookup f = some (.ref q) → es.lookup f = some d →
    fs.map (·.1) = (putD f d' es).map (·.1) ∧ Flds K F (upd H q o') (fs.map (·.2)) ((putD f d' es).map (·.2)) as
  | [], [], _, _, .nil, _, _, e => by cases e
  | [], _ :: _, _, k, _, _, _, _ => by cases k
  | _ :: _, [], _, k, _, _, _, _ => by cases k
  | (g, x) :: fs, (g', y) :: es, as, k, t, nd, e1, e => by
    rw [List.map_cons, List.map_cons] at k
    injection k with k1 k2
    have k1 : g = g' := k1
    subst k1
    have t : Flds K F H (x :: fs.map (·.2)) (y :: es.map (·.2)) as := t
    simp only [List.lookup_cons] at e e1
    unfold putD
    by_cases hg : g = f
    · have hb : (f == g) = true := beq_iff_eq.mpr hg.symm
      rw [hb] at e e1
      simp only at e e1
      cases e
      cases e1
      rw [if_pos hg]
      refine ⟨by rw [List.map_cons, List.map_cons, k2], ?_⟩
      cases t with
      | val o1 _ _ => rw [ho] at o1; cases o1
      | own o1 f1 h1 r1 tl =>
        refine .own ho' f1 upd_same ro (tl.mono' (Same.refl F) fun b hb => ⟨(tl.has b hb).1, upd_ne (fun z => (List.nodup_cons.mp nd).1 (by rw [← z]; exact hb))⟩)
    · have hb : (f == g) = false := by rw [beq_eq_false_iff_ne]; exact fun z => hg z.symm
      rw [hb] at e e1
      simp only at e e1
      rw [if_neg hg]
      cases t with
      | val o1 r t =>
        obtain ⟨m1, m2⟩ := Flds.mut ho ho' ro k2 t nd e1 e
        exact ⟨by rw [List.map_cons, List.map_cons, m1], .val o1 r m2⟩
      | own o1 f1 h1 r1 tl =>
        obtain ⟨m1, m2⟩ := Flds.mut ho ho' ro k2 tl (List.nodup_cons.mp nd).2 e1 e
        obtain ⟨q2, o2, z1, z2, _⟩ := Flds.look ho k2 tl e
        rw [e1] at z1
        cases z1
        exact ⟨by rw [List.map_cons, List.map_cons, m1], .own o1 f1 (by rw [upd_ne (fun z => (List.nodup_cons.mp nd).1 (by rw [z]; exact z2))]; exact h1) r1 m2⟩
end
section
variable {X : Cx} {E : EW} {i : Nat} {c : String} {C : Addr} {f : Str}
end
end G


set_option maxHeartbeats 4000000
namespace G
open PySem PySem.Spec PyProof.Rows L2

abbrev MF := D → List D → Option (D × D)
section
variable {P : Program} {w : World} {K : PySem.W.Frag} {mg : Str → Option Value} {base : Heap}
end
section
variable {X : Cx} {i : Nat} {c : String} {C : Addr} {m : Str} {g : MF} {E : EW} {cv : String → Value} {W : WX} {E' : L2.St → XK}
end

section
variable {X : Cx} {i : Nat} {c : String} {C : Addr} {g : MF} {cv : String → Value} {W : WX}
end
end G


set_option maxHeartbeats 4000000
namespace G
open PySem PySem.Spec PyProof.Rows L2

section
variable {K : PySem.W.Frag} {F F' H HL : Hp}
end
section
variable {K : PySem.W.Frag} {ρ0 ρ ρ1 : Rho} {σ0 σ σ1 : L2.St} {F0 H0 F H F1 H1 : Hp} {i : Nat} {p : Addr} {as : List Addr} {gd : D}
theorem OG.dT (t : OG K ρ0 σ0 F0 H0 i p as gd ρ σ F H) : ∀ q ∈ as, ∃ kvs, H q = some (.dT kvs) := fun q hq => by
  obtain ⟨_, _, _, _, _, _, _, _, _, fl⟩ := t.cm.ex
  exact (fl.has q hq).2
end
section
variable {X : Cx} {E : EW} {i : Nat} {T1 T2 : TS} {t1 t2 : RS}
end
end G


set_option maxHeartbeats 4000000
namespace G
open PySem PySem.Spec PyProof.Rows L2

section
variable {K : PySem.W.Frag}
end
section
variable {X : Cx} {E : EW} {pos : Pos}
end
section
variable (ρ : Rho) (i : Nat) (te : XV)
end
end G


set_option maxHeartbeats 4000000
namespace G
open PySem PySem.Spec PyProof.Rows L2

abbrev GT3 := List (Int × Addr × List D)
section
variable {K : PySem.W.Frag} {ρ0 ρ ρ1 : Rho} {σ0 σ σ1 : L2.St} {F0 H0 F H F1 H1 : Hp} {i : Nat} {p : Addr} {T : GT3}
end
end G


set_option maxHeartbeats 4000000
namespace G
open PySem PySem.Spec PyProof.Rows L2
end G


set_option maxHeartbeats 4000000
namespace G
open PySem PySem.Spec PyProof.Rows L2

section
variable {X : Cx} {E : EW} {i : Nat}
end
end G


set_option maxHeartbeats 4000000
namespace G
open PySem PySem.Spec PyProof.Rows L2

section
variable {X : Cx} {E : EW} {i j : Nat}
end
theorem RT.imp {X : Cx} {i : Nat} {T T' : TS} {t : RS} (h : RT X i T t) (k : ∀ C σ H, T C σ H → T' C σ H) : RT X i T' t := ⟨fun r0 n0 t C o => k C _ _ (h.go r0 n0 t C o)⟩
section
variable {X : Cx} {E : EW} {i : Nat} {T1 T2 : TS} {t1 t2 : RS}
end
section
variable {X : Cx} {cv : String → Value} {W : WX} {pos : Pos}
end
end G


set_option maxHeartbeats 4000000
namespace G
open PySem PySem.Spec PyProof.Rows L2

section
variable {gd d : D} {ρ ρ1 : Rho} {i j : Nat} {t1 t2 : RS}
end
end G


set_option maxHeartbeats 4000000
namespace G
open PySem PySem.Spec PyProof.Rows L2

section
variable {K : PySem.W.Frag} {F H F1 H1 F2 H2 : Hp} {ρ ρ1 : Rho} {σ σ1 : L2.St}
/-- an own object is let go of; what becomes of it is not told -/
theorem Go.drop {h : Nat} {y : D} {b : Addr} (h0 : h ≠ 0) (r : Rel K F H ρ σ) (e1 : ρ[h]? = some (.own y)) (e2 : σ[h]? = some (some (.ref b))) (k : ∀ a w, H a = some w → a ≠ b → H2 a = some w) : Go K ρ σ F H (ρ.set h .emp) σ F H2 := by
  have fb : F b = none := by
    obtain ⟨p, o, q1, q2, _, _⟩ := r.own e1
    rw [e2] at q1
    cases q1
    exact q2
  have back : ∀ {m : Nat} {s : Slot}, (ρ.set h .emp)[m]? = some s → (m = h ∧ s = .emp) ∨ (m ≠ h ∧ ρ[m]? = some s) := fun {m s} q => by
    rcases get_set q with ⟨e, z⟩ | ⟨e, z⟩
    · exact .inl ⟨e.symm, z⟩
    · exact .inr ⟨fun w => e w.symm, z⟩
  have own : ∀ p, Own (ρ.set h .emp) σ p → Own ρ σ p := fun p ⟨m, d, q1, q2⟩ => by
    rcases back q1 with ⟨_, z⟩ | ⟨_, z⟩
    · cases z
    · exact ⟨m, d, z, q2⟩
  refine ⟨⟨fun a w z => k a w (r.ex a w z) (fun e => (by rw [e, fb] at z; cases z)), (by rw [List.length_set]; exact r.len), fun m s o q1 q2 => ?_, fun m n d e p q1 q2 q3 q4 => ?_, fun m d p q1 q2 q3 => ?_⟩, Same.refl F, fun a o z1 z2 z3 => ⟨k a o z1 fun e => z3 ⟨h, y, e1, by rw [e]; exact e2⟩, fun _ => z2⟩, fun p z => .inl (own p z), rfl, fun d z => ⟨d, by rw [List.getElem?_set_ne h0]; exact z⟩, fun m d z => ?_⟩
  · rcases back q1 with ⟨_, rfl⟩ | ⟨hm, z⟩
    · exact .emp
    · have sr := r.at' m s o z q2
      cases sr with
      | emp => exact .emp
      | adr => exact .adr
      | val rp => exact .val rp
      | @own p w d z1 z2 z3 => exact .own z1 (k _ _ z2 fun e => hm (by subst e; exact r.dis _ _ _ _ _ z e1 q2 e2)) z3
      | rd ra =>
        cases ra with
        | val rp n => exact .rd (.val rp n)
        | @own p w d z1 z2 z3 => exact .rd (.own z1 (k _ _ z2 fun e => by subst e; exact r.rdis _ _ _ z q2 ⟨h, y, e1, e2⟩) z3)
  · rcases back q1 with ⟨_, z⟩ | ⟨_, z1⟩
    · cases z
    · rcases back q2 with ⟨_, z⟩ | ⟨_, z2⟩
      · cases z
      · exact r.dis _ _ _ _ _ z1 z2 q3 q4
  · rcases back q1 with ⟨_, z⟩ | ⟨_, z⟩
    · cases z
    · exact r.rdis _ _ _ z q2 (own p q3)
  · rcases back z with ⟨_, z⟩ | ⟨_, z⟩
    · cases z
    · exact ⟨z, rfl⟩
end
section
variable {K : PySem.W.Frag} {E : EW} {fr : Bool} {i h : Nat} {ρ1 : Rho} {σ : L2.St} {F1 H1 F' H' H2 : Hp} {v : V} {d y : D} {b : Addr}
end
section
variable {X : Cx} {cv : String → Value} {pos : Pos} {W : WX} {fr : Bool}
end
section
variable {K : PySem.W.Frag} {E : EW}
end
end G


set_option maxHeartbeats 4000000
namespace G
open PySem PySem.Spec PyProof.Rows L2

end G


set_option maxHeartbeats 4000000
namespace G
open PySem PySem.Spec PyProof.Rows L2
end G


set_option maxHeartbeats 4000000
namespace G
open PySem PySem.Spec PyProof.Rows L2
def lpopL (i : Nat) (ρ : Rho) (ds : List D) (o : Option D) : Res D := match o with
  | some d => .ok d (ρ.set i (.own (.lst ds.dropLast)))
  | none => .bad
def lpopO0 (i : Nat) (ρ : Rho) (o : Option D) : Res D := match o with
  | some (.lst ds) => lpopL i ρ ds ds.getLast?
  | _ => .bad
def xLPop0 (i : Nat) : XV := fun ρ => lpopO0 i ρ (ownD i ρ)
section
variable {X : Cx} {E : EW} {pos : Pos}
theorem xe_lpop0 {i : Nat} {e : Expr} (hs : PE X e (tBM0 X.K "list" rPop (tVar i))) : PE X e (lE X.K E (xLPop0 i)) := pe_imp hs fun σ H Q h => by
  obtain ⟨F, ρ, r, p⟩ := h
  unfold Pend xLPop0 at p
  cases e0 : ownD i ρ with
  | none => simp only [e0, lpopO0] at p
  | some y0 =>
    cases y0 with
    | lst ds =>
      simp only [e0, lpopO0] at p
      cases e3 : ds.getLast? with
      | none => simp only [e3, lpopL] at p
      | some d =>
        simp only [e3, lpopL] at p
        obtain ⟨a, o0, s0, f0, h0, ro0⟩ := r.own (ownD_of e0)
        obtain ⟨xs, rfl, h6⟩ := own_lst ro0
        rw [List.getLast?_eq_getElem?] at e3
        obtain ⟨v, hv, rv⟩ := h6.get e3
        have hd := h6.erase (ds.length - 1)
        rw [List.eraseIdx_length_sub_one] at hd
        rw [← h6.length, List.eraseIdx_length_sub_one] at hd
        refine ⟨.ref a, s0, .inl ⟨rfl, _, SqL.of h0⟩, a, xs, v, rfl, rfl, h0, by rw [h6.length]; exact hv, ?_⟩
        exact p F _ (Go.mut r (ownD_of e0) s0 f0 h0 (.lst hd)) v rv
    | _ => simp only [e0, lpopO0] at p
end
def tRepC (y z : Str) (to : TE) : TE := fun σ H Q => to σ H fun v H1 => ∃ x, v = .str x ∧ x.length + (x.length + 1) * z.length ≤ 16777216 ∧ Q (.str (Txt.replace x y z)) H1
section
variable {X : Cx} {E : EW} {pos : Pos}
theorem pet_replC {o : Expr} {to : TE} {y z : Str} {j0 j1 : Nat} {c0 c1 apos : Pos} (ho : PE X o to) (hyz : (y == z) = false)
    (hst : starEach [.Constant (.str y) j0 c0, .Constant (.str z) j1 c1] X.env = [(false, eval (.Constant (.str y) j0 c0) X.env), (false, eval (.Constant (.str z) j1 c1) X.env)] := by rfl)
    (hbase : attributeBase o "replace" X.env (eval o X.env) = eval o X.env := by rfl) (hline : (apos.endLine == pos.line) = true := by rfl) : PET X (.Call (.Attribute o "replace" apos) [.Constant (.str y) j0 c0, .Constant (.str z) j1 c1] [] pos) (tRepC y z to) := by
  intro pins s σ H Q h1 I h
  refine PySem.Call_method2 hbase hst hline ?_
  refine wpAny_mono (PySem.wpAny_toks (ho.run pins s σ H _ I h)) (fun v s1 hq => ?_) fun _ _ z => z.2
  obtain ⟨hk, w, H1, I1, r1, x, ew, hb, q⟩ := hq
  subst ew
  obtain ⟨tx, e⟩ := r1
  subst e
  refine ⟨"str", _, F.plainAttrs_str, F.slot_str_replace, F.type_str_replace, typeIs_str _ _ _, (fun _ e => nomatch e), Calls.callWith_builtin rfl (Calls.evalArgs_plain (Calls.spliced_cons (Calls.Constant_str ?_)))⟩
  refine Calls.spliced_cons (Calls.Constant_str (Calls.spliced_nil ?_))
  exact PySem.SC.replace (show s1.toks ≠ 0 by omega) (show s1.toks + 1 ≠ 0 by omega) (show s1.toks ≠ s1.toks + 1 by omega) hyz hb fun t' k => ⟨.str (Txt.replace x y z), H1, I1.tok k, ⟨t', rfl⟩, q⟩
/-- behind it a token is out -/
def PEK (X : Cx) (e : Expr) (t : TE) : Prop := ∀ (pins : List (Addr × Obj)) (s : Shared) (σ : L2.St) (H : Hp) (Q : VK), Inv X pins σ H s → t σ H Q → wpAny (model X.prog X.w) X.A (eval e X.env) (fun v s1 => 1 ≤ s1.toks ∧ EP X pins σ Q v s1) X.xe s
theorem pek_bin {c : Str} {j : Nat} {cp : Pos} {op : Operator} {b : Expr} {r : R2} {tb : TE} (ho : OpR X (binaryOp op) r) (hb : PE X b tb) : PEK X (.BinOp (.Constant (.str c) j cp) op b pos) (tOp r (tC (.str c)) tb) := by
  intro pins s σ H Q I h
  refine wpAny_BinOp (Calls.Constant_str ?_)
  refine wpAny_mono (PySem.wpAny_toks (hb.run pins _ σ H _ (I.tok (s.toks + 1)) h)) (fun u s2 hq => ?_) fun _ _ z => z.2
  obtain ⟨hk, y, H2, I2, ry, q2⟩ := hq
  have hk : s.toks + 1 ≤ s2.toks := hk
  refine wpAny_mono (PySem.wpAny_toks (ho pins s2 σ H2 (.str c) y _ u Q I2 ⟨_, rfl⟩ ry q2)) (fun w s3 hq => ⟨?_, hq.2⟩) fun _ _ z => z.2
  have := hq.1
  omega
theorem pek_imp {e : Expr} {t t' : TE} (h : PEK X e t) (k : ∀ σ H Q, t' σ H Q → t σ H Q) : PEK X e t' := fun pins s σ H Q I q => h pins s σ H Q I (k σ H Q q)
theorem xk_op2R {c : Str} {j : Nat} {cp : Pos} {op : Operator} {b : Expr} {f : D → D → Option D} {r : R2} {tb : XV} (ho : OpR X (binaryOp op) r) (hi : Imp2 X.K f r) (hb : PE X b (lE X.K E tb)) : PEK X (.BinOp (.Constant (.str c) j cp) op b pos) (lE X.K E (xOp2 f (xC (.str c)) tb)) := by
  refine pek_imp (pek_bin ho hb) fun σ H Q h => ?_
  obtain ⟨F, ρ, r, p⟩ := h
  have p := (Pend.bind r p)
  have p : Pend X.K E (fun ρ1 => (tb ρ1).bind (lift (f (.str c)))) ρ σ F H fun d ρ' F' H' => ∀ v, Rp X.K F' v d → Q v H' := by
    have := p
    unfold Pend xC at this
    simp only at this
    exact this F H (Go.refl r)
  refine ⟨F, ρ, r, (Pend.bind r p).mono fun y ρ2 F2 H2 g2 q w rw => ?_⟩
  obtain ⟨d, e, q⟩ := q.lift
  exact hi F2 H2 (.str c) w (.str c) y d Q g2.rel.ex (.str _) rw e (outV_of g2.rel q)
theorem pa_consK {e : Expr} {es : List Expr} {te : TE} {ta : TA} (ha : PEK X e te) (hr : PAT X es ta) (hs : starEach (e :: es) X.env = (false, eval e X.env) :: starEach es X.env := by rfl) : PA X (e :: es) (tCons te ta) := by
  refine ⟨fun pos pins s σ H Q I h => ?_⟩
  rw [hs]
  show wpAny _ _ (spliced ((false, eval e X.env) :: backTo pos (starEach es X.env))) _ _ s
  refine Calls.spliced_cons (wpAny_mono (ha pins s σ H _ I h) (fun v s1 q => ?_) fun _ _ z => z)
  obtain ⟨hk, x, H1, I1, r1, q1⟩ := q
  exact thn (hr pos pins s1 σ H1 _ hk I1 q1) fun us s2 ⟨xs, H2, I2, r2, q2⟩ => ⟨x :: xs, H2, I2, .cons r1 r2, q2⟩
theorem lA_cons {σ : L2.St} {H : Hp} {Q : List V → Hp → Prop} {ta : XV} {tr : XA} (h : lA X.K E (xCons ta tr) σ H Q) : tCons (lE X.K E ta) (lA X.K E tr) σ H Q := by
  obtain ⟨F, ρ, r, p⟩ := h
  refine ⟨F, ρ, r, (Pend.bind r p).mono fun x ρ1 F1 H1 g1 q v rv => ⟨F1, ρ1, g1.rel, (Pend.bind g1.rel q).mono fun xs ρ2 F2 H2 g2 q vs rs => ?_⟩⟩
  exact q F2 H2 (Go.refl g2.rel) (v :: vs) (.cons (rv.mono g2.ex) rs)
theorem pat_imp {e : List Expr} {t t' : TA} (h : PAT X e t) (k : ∀ σ H Q, t' σ H Q → t σ H Q) : PAT X e t' := fun pos pins s σ H Q h0 I q => h pos pins s σ H Q h0 I (k σ H Q q)
theorem xa_consK {e : Expr} {es : List Expr} {ta : XV} {tr : XA} (ha : PEK X e (lE X.K E ta)) (hr : PAT X es (lA X.K E tr)) (hs : starEach (e :: es) X.env = (false, eval e X.env) :: starEach es X.env := by rfl) : PA X (e :: es) (lA X.K E (xCons ta tr)) := pa_imp (pa_consK ha hr hs) fun σ H Q h => lA_cons h
theorem xat_cons {e : Expr} {es : List Expr} {ta : XV} {tr : XA} (ha : PET X e (lE X.K E ta)) (hr : PAT X es (lA X.K E tr)) (hs : starEach (e :: es) X.env = (false, eval e X.env) :: starEach es X.env := by rfl) : PAT X (e :: es) (lA X.K E (xCons ta tr)) := pat_imp (pat_cons ha hr hs) fun σ H Q h => lA_cons h
theorem pet_of {e : Expr} {t : TE} (h : PE X e t) : PET X e t := fun pins s σ H Q _ I q => h.run pins s σ H Q I q
theorem xat_nil : PAT X [] (lA X.K E xNil) := pat_imp pat_nil fun σ H Q h => by
  obtain ⟨F, ρ, r, p⟩ := h
  exact p F H (Go.refl r) [] .nil
def dRepC (y z : Str) : D → Option D
  | .str x => if x.length + (x.length + 1) * z.length ≤ 16777216 then some (.str (Txt.replace x y z)) else none
  | _ => none
theorem xt_replC {o : Expr} {to : XV} {y z : Str} {j0 j1 : Nat} {c0 c1 apos : Pos} (ho : PE X o (lE X.K E to)) (hyz : (y == z) = false)
    (hst : starEach [.Constant (.str y) j0 c0, .Constant (.str z) j1 c1] X.env = [(false, eval (.Constant (.str y) j0 c0) X.env), (false, eval (.Constant (.str z) j1 c1) X.env)] := by rfl)
    (hbase : attributeBase o "replace" X.env (eval o X.env) = eval o X.env := by rfl) (hline : (apos.endLine == pos.line) = true := by rfl) : PET X (.Call (.Attribute o "replace" apos) [.Constant (.str y) j0 c0, .Constant (.str z) j1 c1] [] pos) (lE X.K E (xOp1 (dRepC y z) to)) := by
  intro pins s σ H Q h0 I h
  refine pet_replC ho hyz hst hbase hline pins s σ H Q h0 I ?_
  obtain ⟨F, ρ, r, p⟩ := h
  refine ⟨F, ρ, r, (Pend.bind r p).mono fun x ρ1 F1 H1 g1 q v rv => ?_⟩
  obtain ⟨d, e, q⟩ := q.lift
  unfold dRepC at e
  split at e
  · rename_i x
    split at e
    · rename_i hl
      cases e
      cases rv
      exact ⟨x, rfl, hl, q F1 H1 (Go.refl g1.rel) _ (.str _)⟩
    · cases e
  · cases e
end
section
variable (ρ : Rho) (i : Nat) (ds : List D) (d : D) (z : Str)
theorem zlG : xLPop0 i ρ = lpopO0 i ρ (ownD i ρ) := rfl
theorem zlH : lpopO0 i ρ (some (.lst ds)) = lpopL i ρ ds ds.getLast? := rfl
theorem zlI : lpopL i ρ ds (some d) = .ok d (ρ.set i (.own (.lst ds.dropLast))) := rfl
end
end G


set_option maxHeartbeats 4000000
namespace G
open PySem PySem.Spec PyProof.Rows L2

/-- the move by which one picture with cells is another one -/
def moveL (one other : List (Int × Int)) : Option (Int × Int) := match one, other with
  | p :: _, q :: _ => if one.map (sh (q.1 - p.1, q.2 - p.2)) = other then some (q.1 - p.1, q.2 - p.2) else none
  | _, _ => none
end G


set_option maxHeartbeats 4000000
namespace G
open PySem PySem.Spec PyProof.Rows L2

end G


set_option maxHeartbeats 4000000
namespace G
open PySem PySem.Spec PyProof.Rows L2

end G


set_option maxHeartbeats 4000000
namespace G
open PySem PySem.Spec PyProof.Rows L2

/-- turn j is not without cells and no earlier one moved -/
def Quiet (f : Nat → List (Int × Int)) (j : Nat) : Prop := f j ≠ [] ∧ ∀ e, e < j → moveL (f e) (f j) = none
end G


set_option maxHeartbeats 4000000
namespace G
open PySem PySem.Spec PyProof.Rows L2

end G


set_option maxHeartbeats 4000000
namespace G
open PySem PySem.Spec PyProof.Rows L2

section
variable {k : Int} {bs : List Int} (hq0 : 0 ∉ bs) {ss : List Int} {f : Nat → List (Int × Int)} (hf : ∀ j, f (j + 1) = nextP k bs ss (f j)) {L : Nat} (hq : ∀ j, j < L → Quiet f j)
include hq0 hf
include hq
end
end G


set_option maxHeartbeats 4000000
namespace G
open PySem PySem.Spec PyProof.Rows L2

end G


set_option maxHeartbeats 4000000
namespace G
open PySem PySem.Spec PyProof.Rows L2

end G


set_option maxHeartbeats 4000000
namespace G
open PySem PySem.Spec PyProof.Rows L2

def leads (w h : Nat) (one other : List (Int × Int)) (m : Int × Int) : Bool := one.all fun p => decide (onR w h (sh m p) ∈ other)
section
variable (w h : Nat) (k : Int) (bs ss : List Int) (live : List (Int × Int))
end
section
variable {w h : Nat} {W H : Int} (eW : (w : Int) = W) (eH : (h : Int) = H) (hw : 3 ≤ w ∧ w ≤ 40) (hh : 3 ≤ h ∧ h ≤ 40) {k : Int} (hk : Kind k) (bs ss : List Int) {live : List (Int × Int)} (hl : OnRing w h live)
include eW eH hw hh hk hl
end
end G


set_option maxHeartbeats 4000000
namespace G
open PySem PySem.Spec PyProof.Rows L2

def Stands (w h : Nat) (A : List (Int × Int)) : Prop := ∃ (l t : Int) (a b : Nat), Bx l t a b A ∧ 2 * a ≤ w ∧ a + 2 ≤ w ∧ 2 * b ≤ h ∧ b + 2 ≤ h
section
variable {w h : Nat} (hw : 0 < w) (hh : 0 < h) {k : Int} (hk : Kind k) {bs : List Int} (hq : 0 ∉ bs) (ss : List Int) {live : List (Int × Int)} (hp : Pic live) {T : Nat} (st : ∀ j, j ≤ T → Stands w h (afterP k bs ss live j))
include hw hh hk hq hp st
end
end G


namespace K69
open PySem PySem.Spec PyProof.Rows L2 G

def topS (i : Nat) : Stmt := PySem.Challenge.pw_cellships_k69_no_tree_texts.main.body.getD i (.Pass ⟨0, 0, 0, 0⟩)
abbrev s_whole_in : Stmt := topS 8
theorem sc_whole_in : FnScope (["text", "figures", "sign"]) ["text"] (defScope s_whole_in) := ⟨rfl, rfl, rfl, by decide +kernel, rfl, by decide +kernel, by decide +kernel⟩
abbrev s_cell_in : Stmt := topS 9
theorem sc_cell_in : FnScope (["text", "numbers", "part"]) ["text"] (defScope s_cell_in) := ⟨rfl, rfl, rfl, by decide +kernel, rfl, by decide +kernel, by decide +kernel⟩
abbrev s_tree_from : Stmt := topS 12
theorem sc_tree_from : FnScope (["words", "at", "deep", "word", "cell", "dead", "amid", "alive", "behind"]) ["words", "at", "deep"] (defScope s_tree_from) := ⟨rfl, rfl, rfl, by decide +kernel, rfl, by decide +kernel, by decide +kernel⟩
abbrev s_read_tree : Stmt := topS 13
theorem sc_read_tree : FnScope (["text", "words", "tree", "behind"]) ["text"] (defScope s_read_tree) := ⟨rfl, rfl, rfl, by decide +kernel, rfl, by decide +kernel, by decide +kernel⟩
abbrev s_law_pen : Stmt := topS 15
theorem sc_law_pen : FnScope (["_law_script", "_law_k", "_law_cell_here"]) ["_law_script", "_law_k"] (defScope s_law_pen) := ⟨rfl, rfl, rfl, by decide +kernel, rfl, by decide +kernel, by decide +kernel⟩
abbrev s_law_draw : Stmt := topS 16
theorem sc_law_draw : FnScope (["_law_pen_here", "_law_many", "_law_drawn", "_law_number_here"]) ["_law_pen_here", "_law_many"] (defScope s_law_draw) := ⟨rfl, rfl, rfl, by decide +kernel, rfl, by decide +kernel, by decide +kernel⟩
abbrev s_law_number : Stmt := topS 17
theorem sc_law_number : FnScope (["_law_pen_here", "_law_way"]) ["_law_pen_here"] (defScope s_law_number) := ⟨rfl, rfl, rfl, by decide +kernel, rfl, by decide +kernel, by decide +kernel⟩
abbrev s_law_words : Stmt := topS 18
theorem sc_law_words : FnScope (["_law_pen_here", "_law_left", "_law_deep", "_law_way", "_law_cell_here", "_law_dead"]) ["_law_pen_here", "_law_left", "_law_deep"] (defScope s_law_words) := ⟨rfl, rfl, rfl, by decide +kernel, rfl, by decide +kernel, by decide +kernel⟩
abbrev s_law_is_number : Stmt := topS 19
theorem sc_law_is_number : FnScope (["_law_text", "_law_figures", "_law_sign"]) ["_law_text"] (defScope s_law_is_number) := ⟨rfl, rfl, rfl, by decide +kernel, rfl, by decide +kernel, by decide +kernel⟩
abbrev s_law_is_cell : Stmt := topS 20
theorem sc_law_is_cell : FnScope (["_law_text", "_law_one", "_law_comma", "_law_other"]) ["_law_text"] (defScope s_law_is_cell) := ⟨rfl, rfl, rfl, by decide +kernel, rfl, by decide +kernel, by decide +kernel⟩
abbrev s_law_cell : Stmt := topS 21
theorem sc_law_cell : FnScope (["_law_text", "_law_one", "_law_comma", "_law_other"]) ["_law_text"] (defScope s_law_cell) := ⟨rfl, rfl, rfl, by decide +kernel, rfl, by decide +kernel, by decide +kernel⟩
abbrev s_law_due : Stmt := topS 22
theorem sc_law_due : FnScope (["_law_text", "_law_trees", "_law_word", "_law_dead", "_law_alive"]) ["_law_text"] (defScope s_law_due) := ⟨rfl, rfl, rfl, by decide +kernel, rfl, by decide +kernel, by decide +kernel⟩
abbrev s_law_spoilt : Stmt := topS 23
theorem sc_law_spoilt : FnScope (["_law_pen_here", "_law_words_here", "_law_text", "_law_way", "_law_at", "_law_spot", "_law_sign", "_law_some", "_law_many"]) ["_law_pen_here", "_law_words_here"] (defScope s_law_spoilt) := ⟨rfl, rfl, rfl, by decide +kernel, rfl, by decide +kernel, by decide +kernel⟩
abbrev s_law_full : Stmt := topS 24
theorem sc_law_full : FnScope (["_law_deep"]) ["_law_deep"] (defScope s_law_full) := ⟨rfl, rfl, rfl, by decide +kernel, rfl, by decide +kernel, by decide +kernel⟩
abbrev s_law_right : Stmt := topS 25
theorem sc_law_right : FnScope (["_law_text", "_law_due_here", "_law_caught", "_law_found", "e"]) ["_law_text", "_law_due_here"] (defScope s_law_right) := ⟨rfl, rfl, rfl, by decide +kernel, rfl, by decide +kernel, by decide +kernel⟩
abbrev s_law : Stmt := topS 26
theorem sc_law : FnScope (["_law_script", "_law_k", "_law_pen_here", "_law_words_here", "_law_text", "_law_spoilt_here", "_law_thing", "_law_full_here", "_law_deep"]) ["_law_script"] (defScope s_law) := ⟨rfl, rfl, rfl, by decide +kernel, rfl, by decide +kernel, by decide +kernel⟩
/-! whole_in -/
noncomputable def b_whole_in : XS := (xSeq (xSet 1 (xVar 0))
    (xSeq (xIfS (xTest (xOp2S dStarts (xVar 0) (xC (.str "-"))))
    (xSet 1 (xSl dSlS (xVar 0) (xpSome (xC (.int 1))) xpNone))
    xNext)
    (xSeq (xIfS (xOr (xNot (xTest (xChain (dCmp fun i j => decide (i ≤ j)) (dCmp fun i j => decide (i ≤ j)) (xC (.int 1)) (xOpL dLen (xCons (xVar 1) xNil)) (xC (.int 60))))) (xNot (xTest (xOpL dAll (xCons (xLC (xItSg (xVar 1)) (gSet 2) xYes (xOp2 dInSg (xVar 2) (xC (.str "0123456789"))) [2]) xNil)))))
    (xRet (xC .non))
    xNext)
    (xSeq (xIfS (xAnd (xTest (xOp2 dEq (xOp2 dIx (xVar 1) (xC (.int 0))) (xC (.str "0")))) (xTest (xOp2 dNe (xVar 0) (xC (.str "0")))))
    (xRet (xC .non))
    xNext)
    (xRet (xOpL dIntS (xCons (xVar 0) xNil)))))))
noncomputable def f_whole_in : DF := runP [false] 3 false b_whole_in
/-! cell_in -/
noncomputable def b_cell_in : XS := (xSeq (xSet 1 (xLC (xIt (xOp2S dSplit (xVar 0) (xC (.str ",")))) (gSet 2) xYes (xCall f_whole_in (xCons (xVar 2) xNil)) [2]))
    (xSeq (xIfS (xOr (xTest (xOp2 dNe (xOpL dLen (xCons (xVar 1) xNil)) (xC (.int 2)))) (xTest (xOp2 dInX (xC .non) (xVar 1))))
    (xRet (xC .non))
    xNext)
    (xRet (xOpL dTup (xCons (xOp2 dIx (xVar 1) (xC (.int 0))) (xCons (xOp2 dIx (xVar 1) (xC (.int 1))) xNil))))))
noncomputable def f_cell_in : DF := runP [false] 3 false b_cell_in
/-! tree_from -/
noncomputable def b_tree_from (grec : DF) : XS := (xSeq (xIfS (xTest (xOp2 (dCmp fun i j => decide (j ≤ i)) (xVar 1) (xOpL dLen (xCons (xVar 0) xNil))))
    (xRaise "NoText")
    xNext)
    (xSeq (xSet 3 (xOp2 dIx (xVar 0) (xVar 1)))
    (xSeq (xIfS (xTest (xOp2 dEq (xVar 3) (xC (.str "+"))))
    (xRet (xOpL dTup (xCons (xOpL dTup (xCons (xC (.str "found")) xNil)) (xCons (xOp2 dAdd (xVar 1) (xC (.int 1))) xNil))))
    xNext)
    (xSeq (xSet 4 (xCall f_cell_in (xCons (xSl dSlS (xVar 3) (xpSome (xC (.int 1))) xpNone) xNil)))
    (xSeq (xIfS (xOr (xTest (xOp2 dIs (xVar 4) (xC .non))) (xTest (xOp2 dNotInSg (xOp2 dIx (xVar 3) (xC (.int 0))) (xC (.str "!?")))))
    (xRaise "NoText")
    xNext)
    (xSeq (xIfS (xTest (xOp2 dEq (xOp2 dIx (xVar 3) (xC (.int 0))) (xC (.str "!"))))
    (xRet (xOpL dTup (xCons (xOpL dTup (xCons (xC (.str "cut")) (xCons (xVar 4) xNil))) (xCons (xOp2 dAdd (xVar 1) (xC (.int 1))) xNil))))
    xNext)
    (xSeq (xIfS (xTest (xOp2 dEq (xVar 2) (xC (.int 9))))
    (xRaise "NoText")
    xNext)
    (xSeq (xAsg (xCall grec (xCons (xVar 0) (xCons (xOp2 dAdd (xVar 1) (xC (.int 1))) (xCons (xOp2 dAdd (xVar 2) (xC (.int 1))) xNil)))) (gsTup 2 (gsCons (gSet 5) (gsCons (gSet 6) gsNil))))
    (xSeq (xAsg (xCall grec (xCons (xVar 0) (xCons (xVar 6) (xCons (xOp2 dAdd (xVar 2) (xC (.int 1))) xNil)))) (gsTup 2 (gsCons (gSet 7) (gsCons (gSet 8) gsNil))))
    (xRet (xOpL dTup (xCons (xOpL dTup (xCons (xC (.str "try")) (xCons (xVar 4) (xCons (xVar 5) (xCons (xVar 7) xNil))))) (xCons (xVar 8) xNil)))))))))))))
noncomputable def r_tree_from : Nat → DF
  | 0 => fun _ => .bad
  | n + 1 => runP [false, false, false] 9 false (b_tree_from (r_tree_from n))
noncomputable def f_tree_from : DF := r_tree_from 14
/-! read_tree -/
noncomputable def b_read_tree : XS := (xSeq (xIfS (xNot (xTest (xOpL dIsi (xCons (xVar 0) (xCons (xC (.ty "str")) xNil)))))
    (xRaise "NoText")
    xNext)
    (xSeq (xSet 1 (xOp2S dSplit (xVar 0) (xC (.str " "))))
    (xSeq (xAsg (xCall f_tree_from (xCons (xVar 1) (xCons (xC (.int 0)) (xCons (xC (.int 0)) xNil)))) (gsTup 2 (gsCons (gSet 2) (gsCons (gSet 3) gsNil))))
    (xSeq (xIfS (xTest (xOp2 dNe (xVar 3) (xOpL dLen (xCons (xVar 1) xNil))))
    (xRaise "NoText")
    xNext)
    (xRet (xVar 2))))))
noncomputable def f_read_tree : DF := runP [false] 4 false b_read_tree
/-! _law_pen -/
noncomputable def b_law_pen : XS := (xSeq (xSet 2 (xOp2 dAdd (xOp2 dMul (xC (.int 7919)) (xVar 1)) (xC (.int 5))))
    (xSeq (xIfS (xTest (xOp2 dLt (xVar 1) (xOpL dLen (xCons (xVar 0) xNil))))
    (xSet 2 (xOp2 dIx (xVar 0) (xVar 1)))
    (xIfS (xTest (xOp2 (dCmp fun i j => decide (j < i)) (xOpL dLen (xCons (xVar 0) xNil)) (xC (.int 0))))
    (xSet 2 (xOp2 dAdd (xOp2 dMod (xOp2 dIx (xVar 0) (xOp2 dMod (xVar 1) (xOpL dLen (xCons (xVar 0) xNil)))) (xC (.int 2147483629))) (xOp2 dMul (xC (.int 48271)) (xVar 1))))
    xNext))
    (xSeq (xIfS (xTest (xOp2 (dCmp fun i j => decide (j ≤ i)) (xVar 2) (xOp2 dPow (xC (.int 10)) (xC (.int 18)))))
    (xRet (xOpL dLst (xCons (xOp2 dSub (xVar 2) (xOp2 dPow (xC (.int 10)) (xC (.int 18)))) (xCons (xOp2 dMod (xVar 2) (xC (.int 2147483587))) (xCons (xC (.int 0)) xNil)))))
    xNext)
    (xRet (xOpL dLst (xCons (xC (.int 0)) (xCons (xOp2 dMod (xVar 2) (xC (.int 2147483587))) (xCons (xC (.int 0)) xNil))))))))
noncomputable def f_law_pen : DF := runP [false, false] 3 true b_law_pen
/-! _law_draw -/
noncomputable def b_law_draw : XS := (xSeq (xSetIx 0 (xC (.int 2)) (xOp2 dAdd (xIxO 0 (xC (.int 2))) (xC (.int 1))))
    (xSeq (xIfS (xTest (xOp2 (dCmp fun i j => decide (j < i)) (xIxO 0 (xC (.int 0))) (xC (.int 0))))
    (xSeq (xSet 2 (xOp2 dMod (xIxO 0 (xC (.int 0))) (xVar 1)))
    (xSeq (xSetIx 0 (xC (.int 0)) (xOp2 dDiv (xIxO 0 (xC (.int 0))) (xVar 1)))
    (xRet (xVar 2))))
    xNext)
    (xSeq (xSet 3 (xOp2 dMod (xOp2 dAdd (xOp2 dAdd (xIxO 0 (xC (.int 1))) (xOp2 dMul (xC (.int 48271)) (xIxO 0 (xC (.int 2))))) (xC (.int 11))) (xC (.int 2147483629))))
    (xSeq (xSet 3 (xOp2 dAdd (xOp2 dMod (xOp2 dMul (xVar 3) (xVar 3)) (xC (.int 2147483587))) (xOp2 dMul (xC (.int 7919)) (xIxO 0 (xC (.int 2))))))
    (xSeq (xSet 3 (xOp2 dMod (xOp2 dMul (xVar 3) (xVar 3)) (xC (.int 2147483629))))
    (xRet (xOp2 dMod (xOp2 dDiv (xVar 3) (xC (.int 64))) (xVar 1))))))))
noncomputable def f_law_draw : DF := runB [false] 4 false b_law_draw
/-! _law_number -/
noncomputable def b_law_number : XS := (xSeq (xSet 1 (xCallB f_law_draw 0 (xCons (xC (.int 10)) xNil)))
    (xSeq (xIfS (xTest (xOp2 dLt (xVar 1) (xC (.int 9))))
    (xRet (xOpL dStrI (xCons (xOp2 dSub (xCallB f_law_draw 0 (xCons (xC (.int 25)) xNil)) (xC (.int 12))) xNil)))
    xNext)
    (xRet (xOpL dStrI (xCons (xOp2 dMul (xOp2 dSub (xOp2 dSub (xOp2 dPow (xC (.int 10)) (xC (.int 60))) (xC (.int 1))) (xCallB f_law_draw 0 (xCons (xC (.int 3)) xNil))) (xOp2 dSub (xC (.int 1)) (xOp2 dMul (xC (.int 2)) (xCallB f_law_draw 0 (xCons (xC (.int 2)) xNil))))) xNil)))))
noncomputable def f_law_number : DF := runB [] 2 false b_law_number
/-! _law_words -/
noncomputable def b_law_words (grec : Addr → DF) : XS := (xSeq (xSet 3 (xCallB f_law_draw 0 (xCons (xC (.int 4)) xNil)))
    (xSeq (xSet 4 (xOp2 dAdd (xOp2 dAdd (xCallB f_law_number 0 xNil) (xC (.str ","))) (xCallB f_law_number 0 xNil)))
    (xSeq (xIfS (xAnd (xTest (xOp2 dLt (xVar 2) (xC (.int 9)))) (xAnd (xTest (xOp2 (dCmp fun i j => decide (j < i)) (xIxA 1 0) (xC (.int 0)))) (xTest (xOp2 (dCmp fun i j => decide (j < i)) (xVar 3) (xC (.int 0))))))
    (xSeq (xSetIxA 1 0 (xOp2 dSub (xIxA 1 0) (xC (.int 1))))
    (xSeq (xSet 5 (xCallA grec (xCons (xOp2 dAdd (xVar 2) (xC (.int 1))) xNil)))
    (xRet (xOp2 dAdd (xOp2 dAdd (xOpL dLst (xCons (xOp2 dAdd (xC (.str "?")) (xVar 4)) xNil)) (xVar 5)) (xCallA grec (xCons (xOp2 dAdd (xVar 2) (xC (.int 1))) xNil))))))
    xNext)
    (xRet (xOp2 dIx (xOpL dLst (xCons (xOpL dLst (xCons (xC (.str "+")) xNil)) (xCons (xOpL dLst (xCons (xOp2 dAdd (xC (.str "!")) (xVar 4)) xNil)) xNil))) (xCallB f_law_draw 0 (xCons (xC (.int 2)) xNil)))))))
noncomputable def r_law_words : Nat → Addr → DF
  | 0 => fun _ _ => .bad
  | n + 1 => runA [false] 6 (b_law_words (r_law_words n))
noncomputable def f_law_words : Addr → DF := r_law_words 14
/-! _law_is_number -/
noncomputable def b_law_is_number : XS := (xSeq (xSet 1 (xVar 0))
    (xSeq (xIfS (xTest (xOp2 dEq (xSl dSlS (xVar 0) xpNone (xpSome (xC (.int 1)))) (xC (.str "-"))))
    (xSet 1 (xSl dSlS (xVar 0) (xpSome (xC (.int 1))) xpNone))
    xNext)
    (xSeq (xIfS (xOr (xTest (xOp2 dEq (xVar 1) (xC (.str "")))) (xOr (xTest (xOp2 (dCmp fun i j => decide (j < i)) (xOpL dLen (xCons (xVar 1) xNil)) (xC (.int 60)))) (xTest (xOp2 dNe (xLC (xItSg (xVar 1)) (gSet 2) (xTest (xOp2 dNotInSg (xVar 2) (xC (.str "0123456789")))) (xVar 2) [2]) (xOpL dLst xNil)))))
    (xRet (xC (.bl false)))
    xNext)
    (xRet (xOrV (xOp2 dNe (xOp2 dIx (xVar 1) (xC (.int 0))) (xC (.str "0"))) (xOp2 dEq (xVar 0) (xC (.str "0"))))))))
noncomputable def f_law_is_number : DF := runP [false] 3 false b_law_is_number
/-! _law_is_cell -/
noncomputable def b_law_is_cell : XS := (xSeq (xAsg (xOp2S dPart (xVar 0) (xC (.str ","))) (gsTup 3 (gsCons (gSet 1) (gsCons (gSet 2) (gsCons (gSet 3) gsNil)))))
    (xRet (xAndV (xOp2 dEq (xVar 2) (xC (.str ","))) (xAndV (xCall f_law_is_number (xCons (xVar 1) xNil)) (xCall f_law_is_number (xCons (xVar 3) xNil))))))
noncomputable def f_law_is_cell : DF := runP [false] 4 false b_law_is_cell
/-! _law_cell -/
noncomputable def b_law_cell : XS := (xSeq (xAsg (xOp2S dPart (xVar 0) (xC (.str ","))) (gsTup 3 (gsCons (gSet 1) (gsCons (gSet 2) (gsCons (gSet 3) gsNil)))))
    (xRet (xOpL dTup (xCons (xOpL dIntS (xCons (xVar 1) xNil)) (xCons (xOpL dIntS (xCons (xVar 3) xNil)) xNil)))))
noncomputable def f_law_cell : DF := runP [false] 4 false b_law_cell
/-! _law_due -/
noncomputable def b_law_due_1 : XS := (xIfS (xTest (xOp2 dEq (xVar 2) (xC (.str "+"))))
    (xAppend 1 (xOpL dTup (xCons (xOpL dTup (xCons (xC (.str "found")) xNil)) (xCons (xC (.int 0)) xNil))))
    (xIfS (xOr (xTest (xOp2 dNotInX (xSl dSlS (xVar 2) xpNone (xpSome (xC (.int 1)))) (xOpL dLst (xCons (xC (.str "!")) (xCons (xC (.str "?")) xNil))))) (xNot (xTest (xCall f_law_is_cell (xCons (xSl dSlS (xVar 2) (xpSome (xC (.int 1))) xpNone) xNil)))))
    (xRet (xC .non))
    (xIfS (xTest (xOp2 dEq (xOp2 dIx (xVar 2) (xC (.int 0))) (xC (.str "!"))))
    (xAppend 1 (xOpL dTup (xCons (xOpL dTup (xCons (xC (.str "cut")) (xCons (xCall f_law_cell (xCons (xSl dSlS (xVar 2) (xpSome (xC (.int 1))) xpNone) xNil)) xNil))) (xCons (xC (.int 0)) xNil))))
    (xIfS (xTest (xOp2 dLt (xLenO 1) (xC (.int 2))))
    (xRet (xC .non))
    (xSeq (xSet 3 (xLPop0 1))
    (xSeq (xSet 4 (xLPop0 1))
    (xAppend 1 (xOpL dTup (xCons (xOpL dTup (xCons (xC (.str "try")) (xCons (xCall f_law_cell (xCons (xSl dSlS (xVar 2) (xpSome (xC (.int 1))) xpNone) xNil)) (xCons (xOp2 dIx (xVar 3) (xC (.int 0))) (xCons (xOp2 dIx (xVar 4) (xC (.int 0))) xNil))))) (xCons (xOp2 dAdd (xC (.int 1)) (xOpL dMax2 (xCons (xOp2 dIx (xVar 3) (xC (.int 1))) (xCons (xOp2 dIx (xVar 4) (xC (.int 1))) xNil)))) xNil))))))))))
noncomputable def b_law_due : XS := (xSeq (xSetO 1 (xOpL dLst xNil))
    (xSeq (xFor (xIt (xOp1 dRev (xOp2S dSplit (xVar 0) (xC (.str " "))))) (gSet 2) b_law_due_1)
    (xSeq (xIfS (xOr (xTest (xOp2 dNe (xLenO 1) (xC (.int 1)))) (xTest (xOp2 (dCmp fun i j => decide (j < i)) (xOp2 dIx (xIxO 1 (xC (.int 0))) (xC (.int 1))) (xC (.int 9)))))
    (xRet (xC .non))
    xNext)
    (xRet (xOp2 dIx (xIxO 1 (xC (.int 0))) (xC (.int 0)))))))
noncomputable def f_law_due : DF := runP [false] 5 false b_law_due
/-! _law_spoilt -/
noncomputable def b_law_spoilt : XS := (xSeq (xSet 2 (xOp2S dJoin (xC (.str " ")) (xVar 1)))
    (xSeq (xSet 3 (xCallB f_law_draw 0 (xCons (xC (.int 14)) xNil)))
    (xSeq (xSet 4 (xCallB f_law_draw 0 (xCons (xOpL dLen (xCons (xVar 1) xNil)) xNil)))
    (xSeq (xSet 5 (xCallB f_law_draw 0 (xCons (xOp2 dAdd (xOpL dLen (xCons (xVar 2) xNil)) (xC (.int 1))) xNil)))
    (xSeq (xSet 6 (xOp2 dIx (xC (.str "?!+,-0123 x_")) (xCallB f_law_draw 0 (xCons (xC (.int 12)) xNil))))
    (xSeq (xSetO 7 (xOpL dLst (xCons (xOp2 dAdd (xSl dSlL (xVar 1) xpNone (xpSome (xVar 4))) (xSl dSlL (xVar 1) (xpSome (xOp2 dAdd (xVar 4) (xC (.int 1)))) xpNone)) (xCons (xOp2 dAdd (xOp2 dAdd (xSl dSlL (xVar 1) xpNone (xpSome (xVar 4))) (xOpL dLst (xCons (xOp2 dIx (xOpL dLst (xCons (xC (.str "+")) (xCons (xC (.str "!0,0")) (xCons (xC (.str "?1,1")) (xCons (xC (.str "?")) xNil))))) (xOp2 dMod (xVar 5) (xC (.int 4)))) xNil))) (xSl dSlL (xVar 1) (xpSome (xVar 4)) xpNone)) xNil))))
    (xSeq (xSetO 7 (xOp2 dAddL (xTake 7) (xOpL dLst (xCons (xOp2 dAdd (xOp2 dAdd (xSl dSlL (xVar 1) xpNone (xpSome (xVar 4))) (xOpL dLst (xCons (xOp2 dIx (xVar 1) (xVar 4)) xNil))) (xSl dSlL (xVar 1) (xpSome (xVar 4)) xpNone)) (xCons (xOp2 dAdd (xOp2 dAdd (xSl dSlL (xVar 1) xpNone (xpSome (xVar 4))) (xSl dSlL (xVar 1) (xpSome (xOp2 dAdd (xVar 4) (xC (.int 1)))) (xpSome (xOp2 dAdd (xVar 4) (xC (.int 2)))))) (xSl dSlL (xVar 1) (xpSome (xVar 4)) (xpSome (xOp2 dAdd (xVar 4) (xC (.int 1)))))) xNil)))))
    (xSeq (xSetIx 7 (xC (.int 3)) (xOp2 dAdd (xIxO 7 (xC (.int 3))) (xSl dSlL (xVar 1) (xpSome (xOp2 dAdd (xVar 4) (xC (.int 2)))) xpNone)))
    (xSeq (xSetO 7 (xOp2 dAddL (xTake 7) (xOpL dLst (xCons (xOp2 dAdd (xVar 1) (xOpL dLst (xCons (xC (.str "+")) xNil))) (xCons (xSl dSlL (xVar 1) (xpSome (xOp1 dNeg (xC (.int 1)))) xpNone) (xCons (xOp1 dRev (xVar 1)) xNil))))))
    (xSeq (xSet 8 (xOp2 dAdd (xC (.int 9)) (xOp2 dMod (xVar 5) (xC (.int 2)))))
    (xSeq (xAppend 7 (xOp2 dIx (xOpL dLst (xCons (xOp2 dAdd (xOp2 dRepL (xOpL dLst (xCons (xC (.str "?0,0")) xNil)) (xVar 8)) (xOp2 dRepL (xOpL dLst (xCons (xC (.str "+")) xNil)) (xOp2 dAdd (xVar 8) (xC (.int 1))))) (xCons (xOp2 dAdd (xOp2 dRepL (xOpL dLst (xCons (xC (.str "?0,0")) (xCons (xC (.str "+")) xNil))) (xVar 8)) (xOpL dLst (xCons (xC (.str "!1,1")) xNil))) xNil))) (xOp2 dMod (xOp2 dDiv (xVar 5) (xC (.int 2))) (xC (.int 2)))))
    (xSeq (xIfS (xTest (xOp2 dLt (xVar 3) (xC (.int 8))))
    (xRet (xOp2S dJoin (xC (.str " ")) (xIxO 7 (xVar 3))))
    xNext)
    (xSeq (xIfS (xTest (xOp2 dEq (xVar 3) (xC (.int 8))))
    (xRet (xOp2 dIx (xOpL dLst (xCons (xOp2 dAdd (xC (.str " ")) (xVar 2)) (xCons (xOp2 dAdd (xVar 2) (xC (.str " "))) (xCons (xOp2 dAdd (xVar 2) (xC (.str "\n"))) (xCons (xOp1 (dRepC " " "  ") (xVar 2)) xNil))))) (xOp2 dMod (xVar 5) (xC (.int 4)))))
    xNext)
    (xSeq (xIfS (xTest (xOp2 dEq (xVar 3) (xC (.int 9))))
    (xRet (xOp2 dIx (xOpL dLst (xCons (xOp2 dAdd (xOp2 dAdd (xC (.str "!")) (xOp2 dMulT2 (xC (.str "1")) (xC (.int 61)))) (xC (.str ",0"))) (xCons (xOp2 dAdd (xC (.str "!0,-")) (xOp2 dMulT2 (xC (.str "9")) (xC (.int 60)))) (xCons (xC (.str "!00,1")) (xCons (xC (.str "!-0,1")) (xCons (xC (.str "!1,2,3")) xNil)))))) (xOp2 dMod (xVar 5) (xC (.int 5)))))
    xNext)
    (xSeq (xIfS (xTest (xOp2 dLt (xVar 3) (xC (.int 12))))
    (xRet (xOp2 dAdd (xOp2 dAdd (xSl dSlS (xVar 2) xpNone (xpSome (xVar 5))) (xVar 6)) (xSl dSlS (xVar 2) (xpSome (xOp2 dAdd (xVar 5) (xC (.int 1)))) xpNone)))
    xNext)
    (xRet (xOp2 dIx (xOpL dLst (xCons (xOp2 dAdd (xOp2 dAdd (xSl dSlS (xVar 2) xpNone (xpSome (xVar 5))) (xVar 6)) (xSl dSlS (xVar 2) (xpSome (xVar 5)) xpNone)) (xCons (xOp2 dAdd (xSl dSlS (xVar 2) xpNone (xpSome (xVar 5))) (xSl dSlS (xVar 2) (xpSome (xOp2 dAdd (xVar 5) (xC (.int 1)))) xpNone)) xNil))) (xOp2 dSub (xVar 3) (xC (.int 12))))))))))))))))))))
noncomputable def f_law_spoilt : DF := runB [false] 9 false b_law_spoilt
/-! _law_full -/
noncomputable def b_law_full (grec : DF) : XS := (xSeq (xIfS (xTest (xOp2 dEq (xVar 0) (xC (.int 0))))
    (xRet (xOpL dLst (xCons (xC (.str "!-1,2")) xNil)))
    xNext)
    (xRet (xOp2 dAddL (xOp2 dAdd (xOp2 dAdd (xOpL dLst (xCons (xOp2 dAdd (xC (.str "?0,")) (xOpL dStrI (xCons (xVar 0) xNil))) xNil)) (xCall grec (xCons (xOp2 dSub (xVar 0) (xC (.int 1))) xNil))) (xOpL dLst (xCons (xC (.str "?1,0")) (xCons (xC (.str "+")) xNil)))) (xCall grec (xCons (xOp2 dSub (xVar 0) (xC (.int 1))) xNil)))))
noncomputable def r_law_full : Nat → DF
  | 0 => fun _ => .bad
  | n + 1 => runP [false] 1 true (b_law_full (r_law_full n))
noncomputable def f_law_full : DF := r_law_full 14
/-! _law_right -/
noncomputable def b_law_right_1 : XS := (xSet 3 (xCall f_read_tree (xCons (xVar 0) xNil)))
noncomputable def e_law_right_2 : XS := (xSet 2 (xVar 4))
noncomputable def b_law_right : XS := (xSeq (xSet 2 (xC .non))
    (xSeq (xSet 3 (xC .non))
    (xSeq (xTryV 4 ["NoText"] (fun k => isX k ["CellError"]) b_law_right_1 e_law_right_2)
    (xSeq (xIfS (xTest (xOp2 dIsNot (xVar 1) (xC .non)))
    (xRet (xAndV (xOp2 dIs (xVar 2) (xC .non)) (xOp2 dEq (xVar 3) (xVar 1))))
    xNext)
    (xRet (xAndV (xOp1 (dIsX ["NoText"] (fun k => isX k ["NoText"])) (xVar 2)) (xAndV (xOp1 (dIsX ["NoText"] (fun k => isX k ["ValueError"])) (xVar 2)) (xNotV (xOp1 (dIsX ["NoText"] (fun k => isX k ["NoName", "NoRule"])) (xVar 2))))))))))
noncomputable def f_law_right : DF := runP [false, false] 5 false b_law_right
/-! law -/
noncomputable def b_law_1 : XS := (xSeq (xSetO 2 (xCall f_law_pen (xCons (xVar 0) (xCons (xVar 1) xNil))))
    (xSeq (xSet 3 (xCallTA 2 f_law_words (xOpL dLst (xCons (xCallB f_law_draw 2 (xCons (xC (.int 6)) xNil)) xNil)) (xCons (xC (.int 0)) xNil)))
    (xSeq (xSet 4 (xOp2S dJoin (xC (.str " ")) (xVar 3)))
    (xSeq (xSet 5 (xCallB f_law_spoilt 2 (xCons (xVar 3) xNil)))
    (xIfS (xOr (xNot (xTest (xCall f_law_right (xCons (xVar 5) (xCons (xCall f_law_due (xCons (xVar 5) xNil)) xNil))))) (xNot (xTest (xCall f_law_right (xCons (xVar 4) (xCons (xCall f_law_due (xCons (xVar 4) xNil)) xNil))))))
    (xRet (xC (.bl false)))
    xNext)))))
noncomputable def b_law_2 : XS := (xIfS (xNot (xTest (xCall f_law_right (xCons (xVar 6) (xCons (xC .non) xNil)))))
    (xRet (xC (.bl false)))
    xNext)
noncomputable def b_law : XS := (xSeq (xFor (xItR1 (xC (.int 6))) (gSet 1) b_law_1)
    (xSeq (xFor (xIt (xOpL dLst (xCons (xC .non) (xCons (xC (.int 0)) (xCons (xC (.bl true)) (xCons (xOpL dLst xNil) (xCons (xOpL dLst (xCons (xC (.str "+")) xNil)) (xCons (xOpL dTup (xCons (xC (.str "found")) xNil)) (xCons (xC (.dicT false [])) (xCons (xC (.str "")) (xCons (xC (.str " ")) (xCons (xC (.str "?0,0")) (xCons (xC (.str "++")) (xCons (xC (.str "?0,0 +")) (xCons (xC (.str "!")) (xCons (xC (.str "?")) (xCons (xC (.str "+ +")) xNil))))))))))))))))) (gSet 6) b_law_2)
    (xSeq (xSet 7 (xOp2S dJoin (xC (.str " ")) (xCall f_law_full (xCons (xC (.int 4)) xNil))))
    (xSeq (xIfS (xOr (xTest (xOp2 dIs (xCall f_law_due (xCons (xVar 7) xNil)) (xC .non))) (xNot (xTest (xCall f_law_right (xCons (xVar 7) (xCons (xCall f_law_due (xCons (xVar 7) xNil)) xNil))))))
    (xRet (xC (.bl false)))
    xNext)
    (xSeq (xSet 8 (xOpL dLst (xCons (xOp2S dJoin (xC (.str " ")) (xOp2 dRepL (xOpL dLst (xCons (xC (.str "?0,0")) xNil)) (xC (.int 399)))) (xCons (xOp2S dJoin (xC (.str " ")) (xOp2 dAdd (xOp2 dRepL (xOpL dLst (xCons (xC (.str "?0,0")) xNil)) (xC (.int 285))) (xOp2 dRepL (xOpL dLst (xCons (xC (.str "+")) xNil)) (xC (.int 286))))) (xCons (xOp2S dJoin (xC (.str " ")) (xOp2 dAdd (xOp2 dRepL (xOpL dLst (xCons (xC (.str "?0,0")) (xCons (xC (.str "+")) xNil))) (xC (.int 285))) (xOpL dLst (xCons (xC (.str "+")) xNil)))) xNil)))))
    (xRet (xOpL dAll (xCons (xLC (xIt (xVar 8)) (gSet 4) xYes (xCall f_law_right (xCons (xVar 4) (xCons (xC .non) xNil))) [4]) xNil))))))))
noncomputable def f_law : DF := runP [false] 9 false b_law
structure Ad where
  a_whole_in : Addr
  d_whole_in : FuncData
  a_cell_in : Addr
  d_cell_in : FuncData
  a_tree_from : Addr
  d_tree_from : FuncData
  a_read_tree : Addr
  d_read_tree : FuncData
  a_law_pen : Addr
  d_law_pen : FuncData
  a_law_draw : Addr
  d_law_draw : FuncData
  a_law_number : Addr
  d_law_number : FuncData
  a_law_words : Addr
  d_law_words : FuncData
  a_law_is_number : Addr
  d_law_is_number : FuncData
  a_law_is_cell : Addr
  d_law_is_cell : FuncData
  a_law_cell : Addr
  d_law_cell : FuncData
  a_law_due : Addr
  d_law_due : FuncData
  a_law_spoilt : Addr
  d_law_spoilt : FuncData
  a_law_full : Addr
  d_law_full : FuncData
  a_law_right : Addr
  d_law_right : FuncData
  a_law : Addr
  d_law : FuncData
  c_NoText : Addr
  c_CellError : Addr
  c_NoName : Addr
  c_NoRule : Addr
structure Txt (K : PySem.W.Frag) (mg : Str → Option Value) (cv : String → Value) (A : Ad) : Prop where
  F_whole_in : Fun K "whole_in" "whole_in" s_whole_in A.a_whole_in A.d_whole_in
  B_whole_in : Binds K A.d_whole_in ["text"] []
  M_whole_in : mg "whole_in" = some (.ref A.a_whole_in)
  F_cell_in : Fun K "cell_in" "cell_in" s_cell_in A.a_cell_in A.d_cell_in
  B_cell_in : Binds K A.d_cell_in ["text"] []
  M_cell_in : mg "cell_in" = some (.ref A.a_cell_in)
  F_tree_from : Fun K "tree_from" "tree_from" s_tree_from A.a_tree_from A.d_tree_from
  B_tree_from : Binds K A.d_tree_from ["words", "at", "deep"] []
  M_tree_from : mg "tree_from" = some (.ref A.a_tree_from)
  F_read_tree : Fun K "read_tree" "read_tree" s_read_tree A.a_read_tree A.d_read_tree
  B_read_tree : Binds K A.d_read_tree ["text"] []
  M_read_tree : mg "read_tree" = some (.ref A.a_read_tree)
  F_law_pen : Fun K "_law_pen" "_law_pen" s_law_pen A.a_law_pen A.d_law_pen
  B_law_pen : Binds K A.d_law_pen ["_law_script", "_law_k"] []
  M_law_pen : mg "_law_pen" = some (.ref A.a_law_pen)
  F_law_draw : Fun K "_law_draw" "_law_draw" s_law_draw A.a_law_draw A.d_law_draw
  B_law_draw : Binds K A.d_law_draw ["_law_pen_here", "_law_many"] []
  M_law_draw : mg "_law_draw" = some (.ref A.a_law_draw)
  F_law_number : Fun K "_law_number" "_law_number" s_law_number A.a_law_number A.d_law_number
  B_law_number : Binds K A.d_law_number ["_law_pen_here"] []
  M_law_number : mg "_law_number" = some (.ref A.a_law_number)
  F_law_words : Fun K "_law_words" "_law_words" s_law_words A.a_law_words A.d_law_words
  B_law_words : Binds K A.d_law_words ["_law_pen_here", "_law_left", "_law_deep"] []
  M_law_words : mg "_law_words" = some (.ref A.a_law_words)
  F_law_is_number : Fun K "_law_is_number" "_law_is_number" s_law_is_number A.a_law_is_number A.d_law_is_number
  B_law_is_number : Binds K A.d_law_is_number ["_law_text"] []
  M_law_is_number : mg "_law_is_number" = some (.ref A.a_law_is_number)
  F_law_is_cell : Fun K "_law_is_cell" "_law_is_cell" s_law_is_cell A.a_law_is_cell A.d_law_is_cell
  B_law_is_cell : Binds K A.d_law_is_cell ["_law_text"] []
  M_law_is_cell : mg "_law_is_cell" = some (.ref A.a_law_is_cell)
  F_law_cell : Fun K "_law_cell" "_law_cell" s_law_cell A.a_law_cell A.d_law_cell
  B_law_cell : Binds K A.d_law_cell ["_law_text"] []
  M_law_cell : mg "_law_cell" = some (.ref A.a_law_cell)
  F_law_due : Fun K "_law_due" "_law_due" s_law_due A.a_law_due A.d_law_due
  B_law_due : Binds K A.d_law_due ["_law_text"] []
  M_law_due : mg "_law_due" = some (.ref A.a_law_due)
  F_law_spoilt : Fun K "_law_spoilt" "_law_spoilt" s_law_spoilt A.a_law_spoilt A.d_law_spoilt
  B_law_spoilt : Binds K A.d_law_spoilt ["_law_pen_here", "_law_words_here"] []
  M_law_spoilt : mg "_law_spoilt" = some (.ref A.a_law_spoilt)
  F_law_full : Fun K "_law_full" "_law_full" s_law_full A.a_law_full A.d_law_full
  B_law_full : Binds K A.d_law_full ["_law_deep"] []
  M_law_full : mg "_law_full" = some (.ref A.a_law_full)
  F_law_right : Fun K "_law_right" "_law_right" s_law_right A.a_law_right A.d_law_right
  B_law_right : Binds K A.d_law_right ["_law_text", "_law_due_here"] []
  M_law_right : mg "_law_right" = some (.ref A.a_law_right)
  F_law : Fun K "law" "law" s_law A.a_law A.d_law
  B_law : Binds K A.d_law ["_law_script"] []
  M_law : mg "law" = some (.ref A.a_law)
  W_NoText : ClsAt K "NoText" A.c_NoText
  U_NoName : PySem.W.subIn K (.type "NoneType") (.ref A.c_NoName) = some false
  U_NoRule : PySem.W.subIn K (.type "NoneType") (.ref A.c_NoRule) = some false
  U_NoText : PySem.W.subIn K (.type "NoneType") (.ref A.c_NoText) = some false
  Z_ValueError : mg "ValueError" = none
  Z_all : mg "all" = none
  Z_int : mg "int" = none
  Z_isinstance : mg "isinstance" = none
  Z_len : mg "len" = none
  Z_max : mg "max" = none
  Z_range : mg "range" = none
  Z_str : mg "str" = none
  K_MOST_FIGURES : ∃ t, mg "MOST_FIGURES" = some (.int 60 t)
  K_DEEPEST : ∃ t, mg "DEEPEST" = some (.int 9 t)
  K_FIGURES : ∃ t, mg "FIGURES" = some (.str "0123456789" t)
  N_NoText : mg "NoText" = some (.ref A.c_NoText)
  L_NoText : ClsT K A.c_NoText
  N_CellError : mg "CellError" = some (.ref A.c_CellError)
  L_CellError : ClsT K A.c_CellError
  N_NoName : mg "NoName" = some (.ref A.c_NoName)
  L_NoName : ClsT K A.c_NoName
  N_NoRule : mg "NoRule" = some (.ref A.c_NoRule)
  L_NoRule : ClsT K A.c_NoRule
  Y_CellError : PySem.W.subIn K (.ref A.c_CellError) (.type "BaseException") = some true
  S_NoText_NoText : PySem.W.subIn K (.ref A.c_NoText) (.ref A.c_NoText) = some true
  S_NoText_CellError : PySem.W.subIn K (.ref A.c_NoText) (.ref A.c_CellError) = some true
  S_NoText_NoName : PySem.W.subIn K (.ref A.c_NoText) (.ref A.c_NoName) = some false
  S_NoText_NoRule : PySem.W.subIn K (.ref A.c_NoText) (.ref A.c_NoRule) = some false
  S_NoText_ValueError : PySem.W.subIn K (.ref A.c_NoText) (.type "ValueError") = some true
  T_NoText : ExcT K A.c_NoText
  V_NoText : cv "NoText" = .ref A.c_NoText
  E_NoText : ExcC K A.c_NoText
section
variable {P : Program} {w : World} {K : PySem.W.Frag} {mg : Str → Option Value} {base : Heap} {cv : String → Value} {A : Ad}
theorem ok_whole_in (T : Txt K mg cv A) : FnOk P w K mg base (L2.CX P w) 1 A.a_whole_in A.d_whole_in ["text"] (spP K cv false [false] f_whole_in) := by
  have nd := sc_whole_in.nd
  exact fn_pure (body := b_whole_in) [false] T.F_whole_in sc_whole_in f_whole_in rfl (by decide) rfl (fun cdv AA outer s H E hr => by
    have tk := takes_of (X := cxOf (L2.CX P w) P w K mg base ["text", "figures", "sign"] "whole_in" (defScope s_whole_in) A.a_whole_in cdv AA outer s H E) rfl rfl rfl rfl
    exact (xs_cons (xs_set (i := 1) nd rfl (Or.inl rfl) (xe_var 0))
    (xs_cons (xs_if (xt_val (xe_starts (xe_var 0) xe_str))
    (xs_one (xs_set (i := 1) nd rfl (Or.inl rfl) (xe_sliceS (xe_var 0) (xp_some xe_int) xp_none)))
    xs_nil)
    (xs_cons (xs_if (PW.pt (xw_or (xt_not (xt_chain op_le (imp_I0 fun _ _ _ => .bl _) op_le (imp_I0 fun _ _ _ => .bl _) xe_int (xe_callB call_lenAll imp_len (by rfl) T.Z_len bt_len (xa_cons (xe_var 1) xa_nil)) (xe_num (by rfl) T.K_MOST_FIGURES))) (xw_or1 (xt_not (xt_val (xe_callB (cr_all rfl) imp_all (by rfl) T.Z_all bt_all (xa_cons (of_new (xn_lc (own := [("sign", 2)]) rfl nd (xi_str (xe_var 1)) (blkOk_by (own := [("sign", 2)]) (N := ["text", "figures", "sign"]) (sc := defScope s_whole_in) (by decide +kernel)) (fun _ _ _ _ _ => (xg_nameW nd rfl (Or.inl rfl))) (fun _ _ _ _ _ => xts_nil) (fun _ _ _ _ _ => (xe_cmp op_in_sign imp_inSg (xe_var 2) (xe_txt (by rfl) T.K_FIGURES) (by rfl))))) xa_nil)))))))
    (xs_one (xs_ret xe_non))
    xs_nil)
    (xs_cons (xs_if (PW.pt (xw_and (xt_cmp (op_eqD hr.units) imp_eq (xe_ixR ix_seq imp_ix (xe_var 1) xe_int (fun _ _ => rfl)) xe_str (nomark _)) (xw_and1 (xt_cmp (op_neD hr.units) imp_ne (xe_var 0) xe_str (nomark _)))))
    (xs_one (xs_ret xe_non))
    xs_nil)
    (xs_one (xs_ret (xe_callT call_int_str imp_intS (by rfl) T.Z_int bt_int (xa_cons (xe_var 0) xa_nil)))))))))
theorem ok_cell_in (T : Txt K mg cv A) : FnOk P w K mg base (L2.CX P w) 2 A.a_cell_in A.d_cell_in ["text"] (spP K cv false [false] f_cell_in) := by
  have G_whole_in := ok_whole_in (P := P) (w := w) (base := base) (cv := cv) T
  have nd := sc_cell_in.nd
  exact fn_pure (body := b_cell_in) [false] T.F_cell_in sc_cell_in f_cell_in rfl (by decide) rfl (fun cdv AA outer s H E hr => by
    have tk := takes_of (X := cxOf (L2.CX P w) P w K mg base ["text", "numbers", "part"] "cell_in" (defScope s_cell_in) A.a_cell_in cdv AA outer s H E) rfl rfl rfl rfl
    exact (xs_cons (xs_setLc (i := 1) (own := [("part", 2)]) (by decide) rfl nd rfl rfl (sw_true rfl rfl rfl (by decide +kernel)) (xi_seq (of_new (xn_split (xe_var 0) xe_str))) (blkOk_by (own := [("part", 2)]) (N := ["text", "numbers", "part"]) (sc := defScope s_cell_in) (by decide +kernel)) (fun _ _ _ _ _ => (xg_nameW nd rfl (Or.inl rfl))) (fun _ _ _ _ _ => xts_nil) (fun _ _ _ _ _ => (xe_call (ban := 1000) takes0 G_whole_in (hr.mono (by decide)) (by rfl) T.M_whole_in T.F_whole_in.kp T.B_whole_in (xm_val (xe_var 2) xm_nil))))
    (xs_cons (xs_if (PW.pt (xw_or (xt_cmp (op_neD hr.units) imp_ne (xe_callB call_lenAll imp_len (by rfl) T.Z_len bt_len (xa_cons (xe_var 1) xa_nil)) xe_int (nomark _)) (xw_or1 (xt_cmp (op_inX (hu65 hr)) imp_inX xe_non (xe_var 1) (by rfl)))))
    (xs_one (xs_ret xe_non))
    xs_nil)
    (xs_one (xs_ret (xe_tup (xa_cons (xe_ixR ix_seq imp_ix (xe_var 1) xe_int (fun _ _ => rfl)) (xa_cons (xe_ixR ix_seq imp_ix (xe_var 1) xe_int (fun _ _ => rfl)) xa_nil))))))))
theorem okr_tree_from (T : Txt K mg cv A) : ∀ n : Nat, FnOk P w K mg base (L2.CX P w) (2 + n) A.a_tree_from A.d_tree_from ["words", "at", "deep"] (spP K cv false [false, false, false] (r_tree_from n))
  | 0 => fb_pure (by rfl)
  | n + 1 => by
    have G_tree_from := okr_tree_from T n
    have G_cell_in := ok_cell_in (P := P) (w := w) (base := base) (cv := cv) T
    have nd := sc_tree_from.nd
    exact fn_pure (k := 2 + n) (body := b_tree_from (r_tree_from n)) [false, false, false] T.F_tree_from sc_tree_from (r_tree_from (n + 1)) rfl (by decide) rfl (fun cdv AA outer s H E hr => by
    have tk := takes_of (X := cxOf (L2.CX P w) P w K mg base ["words", "at", "deep", "word", "cell", "dead", "amid", "alive", "behind"] "tree_from" (defScope s_tree_from) A.a_tree_from cdv AA outer s H E) rfl rfl rfl rfl
    exact (xs_cons (xs_if (xt_cmp op_ge (imp_I0 fun _ _ _ => .bl _) (xe_var 1) (xe_callB call_lenAll imp_len (by rfl) T.Z_len bt_len (xa_cons (xe_var 0) xa_nil)) (nomark _))
    (xs_one (xs_raise rfl tk T.T_NoText T.N_NoText (by rfl) T.V_NoText))
    xs_nil)
    (xs_cons (xs_set (i := 3) nd rfl (Or.inl rfl) (xe_ixR ix_seq imp_ix (xe_var 0) (xe_var 1) (fun _ _ => rfl)))
    (xs_cons (xs_if (xt_cmp (op_eqD hr.units) imp_eq (xe_var 3) xe_str (nomark _))
    (xs_one (xs_ret (xe_tup (xa_cons (xe_tup (xa_cons xe_str xa_nil)) (xa_cons (xe_op2R op_addAll imp_add (xe_var 1) xe_int) xa_nil)))))
    xs_nil)
    (xs_cons (xs_set (i := 4) nd rfl (Or.inl rfl) (xe_call (ban := 1000) tk G_cell_in (hr.mono (by omega)) (by rfl) T.M_cell_in T.F_cell_in.kp T.B_cell_in (xm_val (xe_sliceS (xe_var 3) (xp_some xe_int) xp_none) xm_nil)))
    (xs_cons (xs_if (PW.pt (xw_or (xt_cmp op_isN imp_is (xe_var 4) xe_non (nomark _)) (xw_or1 (xt_cmp op_notIn_sign imp_notInSg (xe_ixR ix_seq imp_ix (xe_var 3) xe_int (fun _ _ => rfl)) xe_str (by rfl)))))
    (xs_one (xs_raise rfl tk T.T_NoText T.N_NoText (by rfl) T.V_NoText))
    xs_nil)
    (xs_cons (xs_if (xt_cmp (op_eqD hr.units) imp_eq (xe_ixR ix_seq imp_ix (xe_var 3) xe_int (fun _ _ => rfl)) xe_str (nomark _))
    (xs_one (xs_ret (xe_tup (xa_cons (xe_tup (xa_cons xe_str (xa_cons (xe_var 4) xa_nil))) (xa_cons (xe_op2R op_addAll imp_add (xe_var 1) xe_int) xa_nil)))))
    xs_nil)
    (xs_cons (xs_if (xt_cmp (op_eqD hr.units) imp_eq (xe_var 2) (xe_num (by rfl) T.K_DEEPEST) (nomark _))
    (xs_one (xs_raise rfl tk T.T_NoText T.N_NoText (by rfl) T.V_NoText))
    xs_nil)
    (xs_cons (xs_asg (xe_call (ban := 1000) tk G_tree_from (hr.mono (by omega)) (by rfl) T.M_tree_from T.F_tree_from.kp T.B_tree_from (xm_val (xe_var 0) (xm_val (xe_op2R op_addAll imp_add (xe_var 1) xe_int) (xm_val (xe_op2R op_addAll imp_add (xe_var 2) xe_int) xm_nil)))) (xg_tup rfl (xgs_cons (xg_name nd rfl (Or.inl rfl)) (xgs_cons (xg_name nd rfl (Or.inl rfl)) xgs_nil))))
    (xs_cons (xs_asg (xe_call (ban := 1000) tk G_tree_from (hr.mono (by omega)) (by rfl) T.M_tree_from T.F_tree_from.kp T.B_tree_from (xm_val (xe_var 0) (xm_val (xe_var 6) (xm_val (xe_op2R op_addAll imp_add (xe_var 2) xe_int) xm_nil)))) (xg_tup rfl (xgs_cons (xg_name nd rfl (Or.inl rfl)) (xgs_cons (xg_name nd rfl (Or.inl rfl)) xgs_nil))))
    (xs_one (xs_ret (xe_tup (xa_cons (xe_tup (xa_cons xe_str (xa_cons (xe_var 4) (xa_cons (xe_var 5) (xa_cons (xe_var 7) xa_nil))))) (xa_cons (xe_var 8) xa_nil)))))))))))))))
theorem ok_tree_from (T : Txt K mg cv A) : FnOk P w K mg base (L2.CX P w) 16 A.a_tree_from A.d_tree_from ["words", "at", "deep"] (spP K cv false [false, false, false] f_tree_from) := okr_tree_from T 14
theorem ok_read_tree (T : Txt K mg cv A) : FnOk P w K mg base (L2.CX P w) 17 A.a_read_tree A.d_read_tree ["text"] (spP K cv false [false] f_read_tree) := by
  have G_tree_from := ok_tree_from (P := P) (w := w) (base := base) (cv := cv) T
  have nd := sc_read_tree.nd
  exact fn_pure (body := b_read_tree) [false] T.F_read_tree sc_read_tree f_read_tree rfl (by decide) rfl (fun cdv AA outer s H E hr => by
    have tk := takes_of (X := cxOf (L2.CX P w) P w K mg base ["text", "words", "tree", "behind"] "read_tree" (defScope s_read_tree) A.a_read_tree cdv AA outer s H E) rfl rfl rfl rfl
    exact (xs_cons (xs_if (xt_not (xt_val (xe_callB call_isi imp_isi (by rfl) T.Z_isinstance bt_isinstance (xa_cons (xe_var 0) (xa_cons (xe_ty (by rfl) T.Z_str bt_str) xa_nil)))))
    (xs_one (xs_raise rfl tk T.T_NoText T.N_NoText (by rfl) T.V_NoText))
    xs_nil)
    (xs_cons (xs_set (i := 1) nd rfl (Or.inl rfl) (of_new (xn_split (xe_var 0) xe_str)))
    (xs_cons (xs_asg (xe_call (ban := 1000) tk G_tree_from (hr.mono (by decide)) (by rfl) T.M_tree_from T.F_tree_from.kp T.B_tree_from (xm_val (xe_var 1) (xm_val xe_int (xm_val xe_int xm_nil)))) (xg_tup rfl (xgs_cons (xg_name nd rfl (Or.inl rfl)) (xgs_cons (xg_name nd rfl (Or.inl rfl)) xgs_nil))))
    (xs_cons (xs_if (xt_cmp (op_neD hr.units) imp_ne (xe_var 3) (xe_callB call_lenAll imp_len (by rfl) T.Z_len bt_len (xa_cons (xe_var 1) xa_nil)) (nomark _))
    (xs_one (xs_raise rfl tk T.T_NoText T.N_NoText (by rfl) T.V_NoText))
    xs_nil)
    (xs_one (xs_ret (xe_var 2))))))))
theorem ok_law_pen (T : Txt K mg cv A) : FnOk P w K mg base (L2.CX P w) 1 A.a_law_pen A.d_law_pen ["_law_script", "_law_k"] (spP K cv true [false, false] f_law_pen) := by
  have nd := sc_law_pen.nd
  exact fn_pure (body := b_law_pen) [false, false] T.F_law_pen sc_law_pen f_law_pen rfl (by decide) rfl (fun cdv AA outer s H E hr => by
    have tk := takes_of (X := cxOf (L2.CX P w) P w K mg base ["_law_script", "_law_k", "_law_cell_here"] "_law_pen" (defScope s_law_pen) A.a_law_pen cdv AA outer s H E) rfl rfl rfl rfl
    exact (xs_cons (xs_set (i := 2) nd rfl (Or.inl rfl) (xe_op2R op_addAll imp_add (xe_op2R op_mulA (imp_I fun _ _ _ => .int _) xe_int (xe_var 1)) xe_int))
    (xs_cons (xs_if (xt_cmp (op_ltAll hr.units0) imp_lt (xe_var 1) (xe_callB call_lenAll imp_len (by rfl) T.Z_len bt_len (xa_cons (xe_var 0) xa_nil)) (nomark _))
    (xs_one (xs_set (i := 2) nd rfl (Or.inl rfl) (xe_ixR ix_seq imp_ix (xe_var 0) (xe_var 1) (fun _ _ => rfl))))
    (xs_one (xs_if (xt_cmp op_gt (imp_I0 fun _ _ _ => .bl _) (xe_callB call_lenAll imp_len (by rfl) T.Z_len bt_len (xa_cons (xe_var 0) xa_nil)) xe_int (nomark _))
    (xs_one (xs_set (i := 2) nd rfl (Or.inl rfl) (xe_op2R op_addAll imp_add (xe_op2R op_mod (imp_I fun _ _ _ => .int _) (xe_ixR ix_seq imp_ix (xe_var 0) (xe_op2R op_mod (imp_I fun _ _ _ => .int _) (xe_var 1) (xe_callB call_lenAll imp_len (by rfl) T.Z_len bt_len (xa_cons (xe_var 0) xa_nil))) (fun _ _ => rfl)) xe_int) (xe_op2R op_mulA (imp_I fun _ _ _ => .int _) xe_int (xe_var 1)))))
    xs_nil)))
    (xs_cons (xs_if (xt_cmp op_ge (imp_I0 fun _ _ _ => .bl _) (xe_var 2) (xe_op2R op_pow (imp_I fun _ _ _ => .int _) xe_int xe_int) (nomark _))
    (xs_one (xs_retN (xn_lst (xa_cons (xe_op2R op_sub (imp_I0 fun _ _ _ => .int _) (xe_var 2) (xe_op2R op_pow (imp_I fun _ _ _ => .int _) xe_int xe_int)) (xa_cons (xe_op2R op_mod (imp_I fun _ _ _ => .int _) (xe_var 2) xe_int) (xa_cons xe_int xa_nil))))))
    xs_nil)
    (xs_one (xs_retN (xn_lst (xa_cons xe_int (xa_cons (xe_op2R op_mod (imp_I fun _ _ _ => .int _) (xe_var 2) xe_int) (xa_cons xe_int xa_nil))))))))))
theorem ok_law_draw (T : Txt K mg cv A) : FnOk P w K mg base (L2.CX P w) 1 A.a_law_draw A.d_law_draw ["_law_pen_here", "_law_many"] (spB K cv false [false] f_law_draw) := by
  have nd := sc_law_draw.nd
  exact fn_bor (body := b_law_draw) [false] T.F_law_draw sc_law_draw f_law_draw rfl (by decide) rfl (fun cdv AA outer s H E hr => by
    have tk := takes_of (X := cxOf (L2.CX P w) P w K mg base ["_law_pen_here", "_law_many", "_law_drawn", "_law_number_here"] "_law_draw" (defScope s_law_draw) A.a_law_draw cdv AA outer s H E) rfl rfl rfl rfl
    exact (xs_cons (xs_setIx (i := 0) rfl (Or.inl rfl) (pv 0) xe_int (xe_op2R op_addAll imp_add (xe_ixO (pv 0) xe_int (fun _ _ => rfl)) xe_int))
    (xs_cons (xs_if (xt_cmp op_gt (imp_I0 fun _ _ _ => .bl _) (xe_ixO (pv 0) xe_int (fun _ _ => rfl)) xe_int (nomark _))
    (xs_cons (xs_set (i := 2) nd rfl (Or.inl rfl) (xe_op2R op_mod (imp_I fun _ _ _ => .int _) (xe_ixO (pv 0) xe_int (fun _ _ => rfl)) (xe_var 1)))
    (xs_cons (xs_setIx (i := 0) rfl (Or.inl rfl) (pv 0) xe_int (xe_op2R op_fdivW (imp_I fun _ _ _ => .int _) (xe_ixO (pv 0) xe_int (fun _ _ => rfl)) (xe_var 1)))
    (xs_one (xs_ret (xe_var 2)))))
    xs_nil)
    (xs_cons (xs_set (i := 3) nd rfl (Or.inl rfl) (xe_op2R op_mod (imp_I fun _ _ _ => .int _) (xe_op2R op_addAll imp_add (xe_op2R op_addAll imp_add (xe_ixO (pv 0) xe_int (fun _ _ => rfl)) (xe_op2R op_mulA (imp_I fun _ _ _ => .int _) xe_int (xe_ixO (pv 0) xe_int (fun _ _ => rfl)))) xe_int) xe_int))
    (xs_cons (xs_set (i := 3) nd rfl (Or.inl rfl) (xe_op2R op_addAll imp_add (xe_op2R op_mod (imp_I fun _ _ _ => .int _) (xe_op2R op_mulA (imp_I fun _ _ _ => .int _) (xe_var 3) (xe_var 3)) xe_int) (xe_op2R op_mulA (imp_I fun _ _ _ => .int _) xe_int (xe_ixO (pv 0) xe_int (fun _ _ => rfl)))))
    (xs_cons (xs_set (i := 3) nd rfl (Or.inl rfl) (xe_op2R op_mod (imp_I fun _ _ _ => .int _) (xe_op2R op_mulA (imp_I fun _ _ _ => .int _) (xe_var 3) (xe_var 3)) xe_int))
    (xs_one (xs_ret (xe_op2R op_mod (imp_I fun _ _ _ => .int _) (xe_op2R op_fdivW (imp_I fun _ _ _ => .int _) (xe_var 3) xe_int) (xe_var 1))))))))))
theorem ok_law_number (T : Txt K mg cv A) : FnOk P w K mg base (L2.CX P w) 2 A.a_law_number A.d_law_number ["_law_pen_here"] (spB K cv false [] f_law_number) := by
  have G_law_draw := ok_law_draw (P := P) (w := w) (base := base) (cv := cv) T
  have nd := sc_law_number.nd
  exact fn_bor (body := b_law_number) [] T.F_law_number sc_law_number f_law_number rfl (by decide) rfl (fun cdv AA outer s H E hr => by
    have tk := takes_of (X := cxOf (L2.CX P w) P w K mg base ["_law_pen_here", "_law_way"] "_law_number" (defScope s_law_number) A.a_law_number cdv AA outer s H E) rfl rfl rfl rfl
    exact (xs_cons (xs_set (i := 1) nd rfl (Or.inl rfl) (xe_callBor tk G_law_draw (hr.mono (by decide)) (by rfl) T.M_law_draw T.F_law_draw.kp T.B_law_draw (pv 0) (xm_val xe_int xm_nil)))
    (xs_cons (xs_if (xt_cmp (op_ltAll hr.units0) imp_lt (xe_var 1) xe_int (nomark _))
    (xs_one (xs_ret (xe_callT call_str_int imp_strI (by rfl) T.Z_str bt_str (xa_cons (xe_op2R op_sub (imp_I0 fun _ _ _ => .int _) (xe_callBor tk G_law_draw (hr.mono (by decide)) (by rfl) T.M_law_draw T.F_law_draw.kp T.B_law_draw (pv 0) (xm_val xe_int xm_nil)) xe_int) xa_nil))))
    xs_nil)
    (xs_one (xs_ret (xe_callT call_str_int imp_strI (by rfl) T.Z_str bt_str (xa_cons (xe_op2R op_mulA (imp_I fun _ _ _ => .int _) (xe_op2R op_sub (imp_I0 fun _ _ _ => .int _) (xe_op2R op_sub (imp_I0 fun _ _ _ => .int _) (xe_op2R op_pow (imp_I fun _ _ _ => .int _) xe_int xe_int) xe_int) (xe_callBor tk G_law_draw (hr.mono (by decide)) (by rfl) T.M_law_draw T.F_law_draw.kp T.B_law_draw (pv 0) (xm_val xe_int xm_nil))) (xe_op2R op_sub (imp_I0 fun _ _ _ => .int _) xe_int (xe_op2R op_mulA (imp_I fun _ _ _ => .int _) xe_int (xe_callBor tk G_law_draw (hr.mono (by decide)) (by rfl) T.M_law_draw T.F_law_draw.kp T.B_law_draw (pv 0) (xm_val xe_int xm_nil))))) xa_nil)))))))
theorem okr_law_words (T : Txt K mg cv A) : ∀ n : Nat, FnOk P w K mg base (L2.CX P w) (2 + n) A.a_law_words A.d_law_words ["_law_pen_here", "_law_left", "_law_deep"] (spP2 K [false] (r_law_words n))
  | 0 => fb_A (by rfl)
  | n + 1 => by
    have G_law_words := okr_law_words T n
    have G_law_draw := ok_law_draw (P := P) (w := w) (base := base) (cv := cv) T
    have G_law_number := ok_law_number (P := P) (w := w) (base := base) (cv := cv) T
    have nd := sc_law_words.nd
    exact fn_A (k := 2 + n) (body := b_law_words (r_law_words n)) [false] T.F_law_words sc_law_words (r_law_words (n + 1)) rfl rfl (by decide) rfl rfl (fun cdv AA outer s H E hr => by
    have tk := takes_of (X := cxOf (L2.CX P w) P w K mg base ["_law_pen_here", "_law_left", "_law_deep", "_law_way", "_law_cell_here", "_law_dead"] "_law_words" (defScope s_law_words) A.a_law_words cdv AA outer s H E) rfl rfl rfl rfl
    exact (xs_cons (xs_set (i := 3) nd rfl (Or.inl rfl) (xe_callBor tk G_law_draw (hr.mono (by omega)) (by rfl) T.M_law_draw T.F_law_draw.kp T.B_law_draw (pv 0) (xm_val xe_int xm_nil)))
    (xs_cons (xs_set (i := 4) nd rfl (Or.inl rfl) (xe_op2R op_addAll imp_add (xe_op2R op_addAll imp_add (xe_callBor tk G_law_number (hr.mono (by omega)) (by rfl) T.M_law_number T.F_law_number.kp T.B_law_number (pv 0) xm_nil) xe_str) (xe_callBor tk G_law_number (hr.mono (by omega)) (by rfl) T.M_law_number T.F_law_number.kp T.B_law_number (pv 0) xm_nil)))
    (xs_cons (xs_if (PW.pt (xw_and (xt_cmp (op_ltAll hr.units0) imp_lt (xe_var 2) xe_int (nomark _)) (xw_and (xt_cmp op_gt (imp_I0 fun _ _ _ => .bl _) (xe_ixA (pv 1) (fun _ _ => rfl)) xe_int (nomark _)) (xw_and1 (xt_cmp op_gt (imp_I0 fun _ _ _ => .bl _) (xe_var 3) xe_int (nomark _))))))
    (xs_cons (xs_setIxA (i := 1) (pv 1) (xe_op2R op_sub (imp_I0 fun _ _ _ => .int _) (xe_ixA (pv 1) (fun _ _ => rfl)) xe_int))
    (xs_cons (xs_set (i := 5) nd rfl (Or.inl rfl) (xe_callA tk G_law_words (hr.mono (by omega)) (by rfl) T.M_law_words T.F_law_words.kp T.B_law_words (pv 0) (pv 1) (xm_val (xe_op2R op_addAll imp_add (xe_var 2) xe_int) xm_nil)))
    (xs_one (xs_ret (xe_op2R op_addAll imp_add (xe_op2R op_addAll imp_add (of_new (xn_lst (xa_cons (xe_op2R op_addAll imp_add xe_str (xe_var 4)) xa_nil))) (xe_var 5)) (xe_callA tk G_law_words (hr.mono (by omega)) (by rfl) T.M_law_words T.F_law_words.kp T.B_law_words (pv 0) (pv 1) (xm_val (xe_op2R op_addAll imp_add (xe_var 2) xe_int) xm_nil)))))))
    xs_nil)
    (xs_one (xs_ret (xe_ixR ix_seq imp_ix (of_new (xn_lst (xa_cons (of_new (xn_lst (xa_cons xe_str xa_nil))) (xa_cons (of_new (xn_lst (xa_cons (xe_op2R op_addAll imp_add xe_str (xe_var 4)) xa_nil))) xa_nil)))) (xe_callBor tk G_law_draw (hr.mono (by omega)) (by rfl) T.M_law_draw T.F_law_draw.kp T.B_law_draw (pv 0) (xm_val xe_int xm_nil)) (fun _ _ => rfl))))))))
theorem ok_law_words (T : Txt K mg cv A) : FnOk P w K mg base (L2.CX P w) 16 A.a_law_words A.d_law_words ["_law_pen_here", "_law_left", "_law_deep"] (spP2 K [false] f_law_words) := okr_law_words T 14
theorem ok_law_is_number (T : Txt K mg cv A) : FnOk P w K mg base (L2.CX P w) 1 A.a_law_is_number A.d_law_is_number ["_law_text"] (spP K cv false [false] f_law_is_number) := by
  have nd := sc_law_is_number.nd
  exact fn_pure (body := b_law_is_number) [false] T.F_law_is_number sc_law_is_number f_law_is_number rfl (by decide) rfl (fun cdv AA outer s H E hr => by
    have tk := takes_of (X := cxOf (L2.CX P w) P w K mg base ["_law_text", "_law_figures", "_law_sign"] "_law_is_number" (defScope s_law_is_number) A.a_law_is_number cdv AA outer s H E) rfl rfl rfl rfl
    exact (xs_cons (xs_set (i := 1) nd rfl (Or.inl rfl) (xe_var 0))
    (xs_cons (xs_if (xt_cmp (op_eqD hr.units) imp_eq (xe_sliceS (xe_var 0) xp_none (xp_some xe_int)) xe_str (nomark _))
    (xs_one (xs_set (i := 1) nd rfl (Or.inl rfl) (xe_sliceS (xe_var 0) (xp_some xe_int) xp_none)))
    xs_nil)
    (xs_cons (xs_if (PW.pt (xw_or (xt_cmp (op_eqD hr.units) imp_eq (xe_var 1) xe_str (nomark _)) (xw_or (xt_cmp op_gt (imp_I0 fun _ _ _ => .bl _) (xe_callB call_lenAll imp_len (by rfl) T.Z_len bt_len (xa_cons (xe_var 1) xa_nil)) xe_int (nomark _)) (xw_or1 (xt_cmp (op_neD hr.units) imp_ne (of_new (xn_lc (own := [("_law_sign", 2)]) rfl nd (xi_str (xe_var 1)) (blkOk_by (own := [("_law_sign", 2)]) (N := ["_law_text", "_law_figures", "_law_sign"]) (sc := defScope s_law_is_number) (by decide +kernel)) (fun _ _ _ _ _ => (xg_nameW nd rfl (Or.inl rfl))) (fun _ _ _ _ _ => (xts_one (xt_cmp op_notIn_sign imp_notInSg (xe_var 2) xe_str (by rfl)))) (fun _ _ _ _ _ => (xe_var 2)))) (of_new (xn_lst xa_nil)) (nomark _))))))
    (xs_one (xs_ret xe_bl))
    xs_nil)
    (xs_one (xs_ret (xe_or (xe_cmp (op_neD hr.units) imp_ne (xe_ixR ix_seq imp_ix (xe_var 1) xe_int (fun _ _ => rfl)) xe_str (nomark _)) (xe_one (xe_cmp (op_eqD hr.units) imp_eq (xe_var 0) xe_str (nomark _))))))))))
theorem ok_law_is_cell (T : Txt K mg cv A) : FnOk P w K mg base (L2.CX P w) 2 A.a_law_is_cell A.d_law_is_cell ["_law_text"] (spP K cv false [false] f_law_is_cell) := by
  have G_law_is_number := ok_law_is_number (P := P) (w := w) (base := base) (cv := cv) T
  have nd := sc_law_is_cell.nd
  exact fn_pure (body := b_law_is_cell) [false] T.F_law_is_cell sc_law_is_cell f_law_is_cell rfl (by decide) rfl (fun cdv AA outer s H E hr => by
    have tk := takes_of (X := cxOf (L2.CX P w) P w K mg base ["_law_text", "_law_one", "_law_comma", "_law_other"] "_law_is_cell" (defScope s_law_is_cell) A.a_law_is_cell cdv AA outer s H E) rfl rfl rfl rfl
    exact (xs_cons (xs_asg (xe_part (xe_var 0) xe_str) (xg_tup rfl (xgs_cons (xg_name nd rfl (Or.inl rfl)) (xgs_cons (xg_name nd rfl (Or.inl rfl)) (xgs_cons (xg_name nd rfl (Or.inl rfl)) xgs_nil)))))
    (xs_one (xs_ret (xe_and (xe_cmp (op_eqD hr.units) imp_eq (xe_var 2) xe_str (nomark _)) (xe_and (xe_call (ban := 1000) tk G_law_is_number (hr.mono (by decide)) (by rfl) T.M_law_is_number T.F_law_is_number.kp T.B_law_is_number (xm_val (xe_var 1) xm_nil)) (xe_one (xe_call (ban := 1000) tk G_law_is_number (hr.mono (by decide)) (by rfl) T.M_law_is_number T.F_law_is_number.kp T.B_law_is_number (xm_val (xe_var 3) xm_nil)))))))))
theorem ok_law_cell (T : Txt K mg cv A) : FnOk P w K mg base (L2.CX P w) 1 A.a_law_cell A.d_law_cell ["_law_text"] (spP K cv false [false] f_law_cell) := by
  have nd := sc_law_cell.nd
  exact fn_pure (body := b_law_cell) [false] T.F_law_cell sc_law_cell f_law_cell rfl (by decide) rfl (fun cdv AA outer s H E hr => by
    have tk := takes_of (X := cxOf (L2.CX P w) P w K mg base ["_law_text", "_law_one", "_law_comma", "_law_other"] "_law_cell" (defScope s_law_cell) A.a_law_cell cdv AA outer s H E) rfl rfl rfl rfl
    exact (xs_cons (xs_asg (xe_part (xe_var 0) xe_str) (xg_tup rfl (xgs_cons (xg_name nd rfl (Or.inl rfl)) (xgs_cons (xg_name nd rfl (Or.inl rfl)) (xgs_cons (xg_name nd rfl (Or.inl rfl)) xgs_nil)))))
    (xs_one (xs_ret (xe_tup (xa_cons (xe_callT call_int_str imp_intS (by rfl) T.Z_int bt_int (xa_cons (xe_var 1) xa_nil)) (xa_cons (xe_callT call_int_str imp_intS (by rfl) T.Z_int bt_int (xa_cons (xe_var 3) xa_nil)) xa_nil)))))))
theorem ok_law_due (T : Txt K mg cv A) : FnOk P w K mg base (L2.CX P w) 3 A.a_law_due A.d_law_due ["_law_text"] (spP K cv false [false] f_law_due) := by
  have G_law_is_cell := ok_law_is_cell (P := P) (w := w) (base := base) (cv := cv) T
  have G_law_cell := ok_law_cell (P := P) (w := w) (base := base) (cv := cv) T
  have nd := sc_law_due.nd
  exact fn_pure (body := b_law_due) [false] T.F_law_due sc_law_due f_law_due rfl (by decide) rfl (fun cdv AA outer s H E hr => by
    have tk := takes_of (X := cxOf (L2.CX P w) P w K mg base ["_law_text", "_law_trees", "_law_word", "_law_dead", "_law_alive"] "_law_due" (defScope s_law_due) A.a_law_due cdv AA outer s H E) rfl rfl rfl rfl
    exact (xs_cons (xs_setO (i := 1) nd rfl (Or.inl rfl) (xn_lst xa_nil))
    (xs_cons (xs_for (passes_of rfl) rfl (xi_seq (of_new (xn_rev (of_new (xn_split (xe_var 0) xe_str))))) (xg_name nd rfl (Or.inl rfl))
    (xs_one (xs_if (xt_cmp (op_eqD hr.units) imp_eq (xe_var 2) xe_str (nomark _))
    (xs_one (xs_append (i := 1) rfl (Or.inl rfl) (xe_tup (xa_cons (xe_tup (xa_cons xe_str xa_nil)) (xa_cons xe_int xa_nil))) (pe_bm PySem.F.plainAttrs_list PySem.F.slot_list_append PySem.F.type_list_append mt_append (pv 1) (pa_cons (xe_tup (xa_cons (xe_tup (xa_cons xe_str xa_nil)) (xa_cons xe_int xa_nil))) pa_nil))))
    (xs_one (xs_if (PW.pt (xw_or (xt_cmp (op_notInX (hu65 hr)) imp_notInX (xe_sliceS (xe_var 2) xp_none (xp_some xe_int)) (of_new (xn_lst (xa_cons xe_str (xa_cons xe_str xa_nil)))) (by rfl)) (xw_or1 (xt_not (xt_val (xe_call (ban := 1000) tk G_law_is_cell (hr.mono (by decide)) (by rfl) T.M_law_is_cell T.F_law_is_cell.kp T.B_law_is_cell (xm_val (xe_sliceS (xe_var 2) (xp_some xe_int) xp_none) xm_nil)))))))
    (xs_one (xs_ret xe_non))
    (xs_one (xs_if (xt_cmp (op_eqD hr.units) imp_eq (xe_ixR ix_seq imp_ix (xe_var 2) xe_int (fun _ _ => rfl)) xe_str (nomark _))
    (xs_one (xs_append (i := 1) rfl (Or.inl rfl) (xe_tup (xa_cons (xe_tup (xa_cons xe_str (xa_cons (xe_call (ban := 1000) tk G_law_cell (hr.mono (by decide)) (by rfl) T.M_law_cell T.F_law_cell.kp T.B_law_cell (xm_val (xe_sliceS (xe_var 2) (xp_some xe_int) xp_none) xm_nil)) xa_nil))) (xa_cons xe_int xa_nil))) (pe_bm PySem.F.plainAttrs_list PySem.F.slot_list_append PySem.F.type_list_append mt_append (pv 1) (pa_cons (xe_tup (xa_cons (xe_tup (xa_cons xe_str (xa_cons (xe_call (ban := 1000) tk G_law_cell (hr.mono (by decide)) (by rfl) T.M_law_cell T.F_law_cell.kp T.B_law_cell (xm_val (xe_sliceS (xe_var 2) (xp_some xe_int) xp_none) xm_nil)) xa_nil))) (xa_cons xe_int xa_nil))) pa_nil))))
    (xs_one (xs_if (xt_cmp (op_ltAll hr.units0) imp_lt (xe_lenO (pv 1) (by rfl) T.Z_len) xe_int (nomark _))
    (xs_one (xs_ret xe_non))
    (xs_cons (xs_set (i := 3) nd rfl (Or.inl rfl) (xe_lpop0 (i := 1) (pe_bm0 PySem.F.plainAttrs_list PySem.F.slot_list_pop PySem.F.type_list_pop mt_pop (pv 1))))
    (xs_cons (xs_set (i := 4) nd rfl (Or.inl rfl) (xe_lpop0 (i := 1) (pe_bm0 PySem.F.plainAttrs_list PySem.F.slot_list_pop PySem.F.type_list_pop mt_pop (pv 1))))
    (xs_one (xs_append (i := 1) rfl (Or.inl rfl) (xe_tup (xa_cons (xe_tup (xa_cons xe_str (xa_cons (xe_call (ban := 1000) tk G_law_cell (hr.mono (by decide)) (by rfl) T.M_law_cell T.F_law_cell.kp T.B_law_cell (xm_val (xe_sliceS (xe_var 2) (xp_some xe_int) xp_none) xm_nil)) (xa_cons (xe_ixR ix_seq imp_ix (xe_var 3) xe_int (fun _ _ => rfl)) (xa_cons (xe_ixR ix_seq imp_ix (xe_var 4) xe_int (fun _ _ => rfl)) xa_nil))))) (xa_cons (xe_op2R op_addAll imp_add xe_int (xe_callB (call_max2 rfl) imp_max2 (by rfl) T.Z_max bt_max (xa_cons (xe_ixR ix_seq imp_ix (xe_var 3) xe_int (fun _ _ => rfl)) (xa_cons (xe_ixR ix_seq imp_ix (xe_var 4) xe_int (fun _ _ => rfl)) xa_nil)))) xa_nil))) (pe_bm PySem.F.plainAttrs_list PySem.F.slot_list_append PySem.F.type_list_append mt_append (pv 1) (pa_cons (xe_tup (xa_cons (xe_tup (xa_cons xe_str (xa_cons (xe_call (ban := 1000) tk G_law_cell (hr.mono (by decide)) (by rfl) T.M_law_cell T.F_law_cell.kp T.B_law_cell (xm_val (xe_sliceS (xe_var 2) (xp_some xe_int) xp_none) xm_nil)) (xa_cons (xe_ixR ix_seq imp_ix (xe_var 3) xe_int (fun _ _ => rfl)) (xa_cons (xe_ixR ix_seq imp_ix (xe_var 4) xe_int (fun _ _ => rfl)) xa_nil))))) (xa_cons (xe_op2R op_addAll imp_add xe_int (xe_callB (call_max2 rfl) imp_max2 (by rfl) T.Z_max bt_max (xa_cons (xe_ixR ix_seq imp_ix (xe_var 3) xe_int (fun _ _ => rfl)) (xa_cons (xe_ixR ix_seq imp_ix (xe_var 4) xe_int (fun _ _ => rfl)) xa_nil)))) xa_nil))) pa_nil)))))))))))))))
    (xs_cons (xs_if (PW.pt (xw_or (xt_cmp (op_neD hr.units) imp_ne (xe_lenO (pv 1) (by rfl) T.Z_len) xe_int (nomark _)) (xw_or1 (xt_cmp op_gt (imp_I0 fun _ _ _ => .bl _) (xe_ixR ix_seq imp_ix (xe_ixO (pv 1) xe_int (fun _ _ => rfl)) xe_int (fun _ _ => rfl)) xe_int (nomark _)))))
    (xs_one (xs_ret xe_non))
    xs_nil)
    (xs_one (xs_ret (xe_ixR ix_seq imp_ix (xe_ixO (pv 1) xe_int (fun _ _ => rfl)) xe_int (fun _ _ => rfl))))))))
theorem ok_law_spoilt (T : Txt K mg cv A) : FnOk P w K mg base (L2.CX P w) 2 A.a_law_spoilt A.d_law_spoilt ["_law_pen_here", "_law_words_here"] (spB K cv false [false] f_law_spoilt) := by
  have G_law_draw := ok_law_draw (P := P) (w := w) (base := base) (cv := cv) T
  have nd := sc_law_spoilt.nd
  exact fn_bor (body := b_law_spoilt) [false] T.F_law_spoilt sc_law_spoilt f_law_spoilt rfl (by decide) rfl (fun cdv AA outer s H E hr => by
    have tk := takes_of (X := cxOf (L2.CX P w) P w K mg base ["_law_pen_here", "_law_words_here", "_law_text", "_law_way", "_law_at", "_law_spot", "_law_sign", "_law_some", "_law_many"] "_law_spoilt" (defScope s_law_spoilt) A.a_law_spoilt cdv AA outer s H E) rfl rfl rfl rfl
    exact (xs_cons (xs_set (i := 2) nd rfl (Or.inl rfl) (xe_join xe_str (xe_var 1)))
    (xs_cons (xs_set (i := 3) nd rfl (Or.inl rfl) (xe_callBor tk G_law_draw (hr.mono (by decide)) (by rfl) T.M_law_draw T.F_law_draw.kp T.B_law_draw (pv 0) (xm_val xe_int xm_nil)))
    (xs_cons (xs_set (i := 4) nd rfl (Or.inl rfl) (xe_callBor tk G_law_draw (hr.mono (by decide)) (by rfl) T.M_law_draw T.F_law_draw.kp T.B_law_draw (pv 0) (xm_val (xe_callB call_lenAll imp_len (by rfl) T.Z_len bt_len (xa_cons (xe_var 1) xa_nil)) xm_nil)))
    (xs_cons (xs_set (i := 5) nd rfl (Or.inl rfl) (xe_callBor tk G_law_draw (hr.mono (by decide)) (by rfl) T.M_law_draw T.F_law_draw.kp T.B_law_draw (pv 0) (xm_val (xe_op2R op_addAll imp_add (xe_callB call_lenAll imp_len (by rfl) T.Z_len bt_len (xa_cons (xe_var 2) xa_nil)) xe_int) xm_nil)))
    (xs_cons (xs_set (i := 6) nd rfl (Or.inl rfl) (xe_ixR ix_seq imp_ix xe_str (xe_callBor tk G_law_draw (hr.mono (by decide)) (by rfl) T.M_law_draw T.F_law_draw.kp T.B_law_draw (pv 0) (xm_val xe_int xm_nil)) (fun _ _ => rfl)))
    (xs_cons (xs_setO (i := 7) nd rfl (Or.inl rfl) (xn_lst (xa_cons (xe_op2R op_addAll imp_add (of_new (xn_slice (xe_var 1) xp_none (xp_some (xe_var 4)))) (of_new (xn_slice (xe_var 1) (xp_some (xe_op2R op_addAll imp_add (xe_var 4) xe_int)) xp_none))) (xa_cons (xe_op2R op_addAll imp_add (xe_op2R op_addAll imp_add (of_new (xn_slice (xe_var 1) xp_none (xp_some (xe_var 4)))) (of_new (xn_lst (xa_cons (xe_ixR ix_seq imp_ix (of_new (xn_lst (xa_cons xe_str (xa_cons xe_str (xa_cons xe_str (xa_cons xe_str xa_nil)))))) (xe_op2R op_mod (imp_I fun _ _ _ => .int _) (xe_var 5) xe_int) (fun _ _ => rfl)) xa_nil)))) (of_new (xn_slice (xe_var 1) (xp_some (xe_var 4)) xp_none))) xa_nil))))
    (xs_cons (xs_setO (i := 7) nd rfl (Or.inl rfl) (xn_op2R op_cat imp_addL (of_new (xn_take 7)) (of_new (xn_lst (xa_cons (xe_op2R op_addAll imp_add (xe_op2R op_addAll imp_add (of_new (xn_slice (xe_var 1) xp_none (xp_some (xe_var 4)))) (of_new (xn_lst (xa_cons (xe_ixR ix_seq imp_ix (xe_var 1) (xe_var 4) (fun _ _ => rfl)) xa_nil)))) (of_new (xn_slice (xe_var 1) (xp_some (xe_var 4)) xp_none))) (xa_cons (xe_op2R op_addAll imp_add (xe_op2R op_addAll imp_add (of_new (xn_slice (xe_var 1) xp_none (xp_some (xe_var 4)))) (of_new (xn_slice (xe_var 1) (xp_some (xe_op2R op_addAll imp_add (xe_var 4) xe_int)) (xp_some (xe_op2R op_addAll imp_add (xe_var 4) xe_int))))) (of_new (xn_slice (xe_var 1) (xp_some (xe_var 4)) (xp_some (xe_op2R op_addAll imp_add (xe_var 4) xe_int))))) xa_nil))))))
    (xs_cons (xs_setIx (i := 7) rfl (Or.inl rfl) (pv 7) xe_int (xe_op2R op_addAll imp_add (xe_ixO (pv 7) xe_int (fun _ _ => rfl)) (of_new (xn_slice (xe_var 1) (xp_some (xe_op2R op_addAll imp_add (xe_var 4) xe_int)) xp_none))))
    (xs_cons (xs_setO (i := 7) nd rfl (Or.inl rfl) (xn_op2R op_cat imp_addL (of_new (xn_take 7)) (of_new (xn_lst (xa_cons (xe_op2R op_addAll imp_add (xe_var 1) (of_new (xn_lst (xa_cons xe_str xa_nil)))) (xa_cons (of_new (xn_slice (xe_var 1) (xp_some (xe_un un_neg imp_neg xe_int)) xp_none)) (xa_cons (of_new (xn_rev (xe_var 1))) xa_nil)))))))
    (xs_cons (xs_set (i := 8) nd rfl (Or.inl rfl) (xe_op2R op_addAll imp_add xe_int (xe_op2R op_mod (imp_I fun _ _ _ => .int _) (xe_var 5) xe_int)))
    (xs_cons (xs_append (i := 7) rfl (Or.inl rfl) (xe_ixR ix_seq imp_ix (of_new (xn_lst (xa_cons (xe_op2R op_addAll imp_add (of_new (xn_op2R op_rep imp_repL (of_new (xn_lst (xa_cons xe_str xa_nil))) (xe_var 8))) (of_new (xn_op2R op_rep imp_repL (of_new (xn_lst (xa_cons xe_str xa_nil))) (xe_op2R op_addAll imp_add (xe_var 8) xe_int)))) (xa_cons (xe_op2R op_addAll imp_add (of_new (xn_op2R op_rep imp_repL (of_new (xn_lst (xa_cons xe_str (xa_cons xe_str xa_nil)))) (xe_var 8))) (of_new (xn_lst (xa_cons xe_str xa_nil)))) xa_nil)))) (xe_op2R op_mod (imp_I fun _ _ _ => .int _) (xe_op2R op_fdivW (imp_I fun _ _ _ => .int _) (xe_var 5) xe_int) xe_int) (fun _ _ => rfl)) (pe_bm PySem.F.plainAttrs_list PySem.F.slot_list_append PySem.F.type_list_append mt_append (pv 7) (pa_cons (xe_ixR ix_seq imp_ix (of_new (xn_lst (xa_cons (xe_op2R op_addAll imp_add (of_new (xn_op2R op_rep imp_repL (of_new (xn_lst (xa_cons xe_str xa_nil))) (xe_var 8))) (of_new (xn_op2R op_rep imp_repL (of_new (xn_lst (xa_cons xe_str xa_nil))) (xe_op2R op_addAll imp_add (xe_var 8) xe_int)))) (xa_cons (xe_op2R op_addAll imp_add (of_new (xn_op2R op_rep imp_repL (of_new (xn_lst (xa_cons xe_str (xa_cons xe_str xa_nil)))) (xe_var 8))) (of_new (xn_lst (xa_cons xe_str xa_nil)))) xa_nil)))) (xe_op2R op_mod (imp_I fun _ _ _ => .int _) (xe_op2R op_fdivW (imp_I fun _ _ _ => .int _) (xe_var 5) xe_int) xe_int) (fun _ _ => rfl)) pa_nil)))
    (xs_cons (xs_if (xt_cmp (op_ltAll hr.units0) imp_lt (xe_var 3) xe_int (nomark _))
    (xs_one (xs_ret (xe_join xe_str (xe_ixO (pv 7) (xe_var 3) (fun _ _ => rfl)))))
    xs_nil)
    (xs_cons (xs_if (xt_cmp (op_eqD hr.units) imp_eq (xe_var 3) xe_int (nomark _))
    (xs_one (xs_ret (xe_ixR ix_seq imp_ix (of_new (xn_lst (xa_consK (xk_op2R op_addAll imp_add (xe_var 2)) (xat_cons (pet_of (xe_op2R op_addAll imp_add (xe_var 2) xe_str)) (xat_cons (pet_of (xe_op2R op_addAll imp_add (xe_var 2) xe_str)) (xat_cons (xt_replC (xe_var 2) (by decide)) xat_nil)))))) (xe_op2R op_mod (imp_I fun _ _ _ => .int _) (xe_var 5) xe_int) (fun _ _ => rfl))))
    xs_nil)
    (xs_cons (xs_if (xt_cmp (op_eqD hr.units) imp_eq (xe_var 3) xe_int (nomark _))
    (xs_one (xs_ret (xe_ixR ix_seq imp_ix (of_new (xn_lst (xa_cons (xe_op2R op_addAll imp_add (xe_op2R op_addAll imp_add xe_str (xe_op2R op_mulT2 imp_mulT2 xe_str xe_int)) xe_str) (xa_cons (xe_op2R op_addAll imp_add xe_str (xe_op2R op_mulT2 imp_mulT2 xe_str xe_int)) (xa_cons xe_str (xa_cons xe_str (xa_cons xe_str xa_nil))))))) (xe_op2R op_mod (imp_I fun _ _ _ => .int _) (xe_var 5) xe_int) (fun _ _ => rfl))))
    xs_nil)
    (xs_cons (xs_if (xt_cmp (op_ltAll hr.units0) imp_lt (xe_var 3) xe_int (nomark _))
    (xs_one (xs_ret (xe_op2R op_addAll imp_add (xe_op2R op_addAll imp_add (xe_sliceS (xe_var 2) xp_none (xp_some (xe_var 5))) (xe_var 6)) (xe_sliceS (xe_var 2) (xp_some (xe_op2R op_addAll imp_add (xe_var 5) xe_int)) xp_none))))
    xs_nil)
    (xs_one (xs_ret (xe_ixR ix_seq imp_ix (of_new (xn_lst (xa_cons (xe_op2R op_addAll imp_add (xe_op2R op_addAll imp_add (xe_sliceS (xe_var 2) xp_none (xp_some (xe_var 5))) (xe_var 6)) (xe_sliceS (xe_var 2) (xp_some (xe_var 5)) xp_none)) (xa_cons (xe_op2R op_addAll imp_add (xe_sliceS (xe_var 2) xp_none (xp_some (xe_var 5))) (xe_sliceS (xe_var 2) (xp_some (xe_op2R op_addAll imp_add (xe_var 5) xe_int)) xp_none)) xa_nil)))) (xe_op2R op_sub (imp_I0 fun _ _ _ => .int _) (xe_var 3) xe_int) (fun _ _ => rfl))))))))))))))))))))
theorem okr_law_full (T : Txt K mg cv A) : ∀ n : Nat, FnOk P w K mg base (L2.CX P w) (0 + n) A.a_law_full A.d_law_full ["_law_deep"] (spP K cv true [false] (r_law_full n))
  | 0 => fb_pure (by rfl)
  | n + 1 => by
    have G_law_full := okr_law_full T n
    have nd := sc_law_full.nd
    exact fn_pure (k := 0 + n) (body := b_law_full (r_law_full n)) [false] T.F_law_full sc_law_full (r_law_full (n + 1)) rfl (by decide) rfl (fun cdv AA outer s H E hr => by
    have tk := takes_of (X := cxOf (L2.CX P w) P w K mg base ["_law_deep"] "_law_full" (defScope s_law_full) A.a_law_full cdv AA outer s H E) rfl rfl rfl rfl
    exact (xs_cons (xs_if (xt_cmp (op_eqD hr.units) imp_eq (xe_var 0) xe_int (nomark _))
    (xs_one (xs_retN (xn_lst (xa_cons xe_str xa_nil))))
    xs_nil)
    (xs_one (xs_retN (xn_op2R op_cat imp_addL (xe_op2R op_addAll imp_add (xe_op2R op_addAll imp_add (of_new (xn_lst (xa_cons (xe_op2R op_addAll imp_add xe_str (xe_callT call_str_int imp_strI (by rfl) T.Z_str bt_str (xa_cons (xe_var 0) xa_nil))) xa_nil))) (of_new (xn_call (ban := 1000) tk G_law_full (hr.mono (by omega)) (by rfl) T.M_law_full T.F_law_full.kp T.B_law_full (xm_val (xe_op2R op_sub (imp_I0 fun _ _ _ => .int _) (xe_var 0) xe_int) xm_nil)))) (of_new (xn_lst (xa_cons xe_str (xa_cons xe_str xa_nil))))) (of_new (xn_call (ban := 1000) tk G_law_full (hr.mono (by omega)) (by rfl) T.M_law_full T.F_law_full.kp T.B_law_full (xm_val (xe_op2R op_sub (imp_I0 fun _ _ _ => .int _) (xe_var 0) xe_int) xm_nil))))))))
theorem ok_law_full (T : Txt K mg cv A) : FnOk P w K mg base (L2.CX P w) 14 A.a_law_full A.d_law_full ["_law_deep"] (spP K cv true [false] f_law_full) := okr_law_full T 14
theorem ok_law_right (T : Txt K mg cv A) : FnOk P w K mg base (L2.CX P w) 18 A.a_law_right A.d_law_right ["_law_text", "_law_due_here"] (spP K cv false [false, false] f_law_right) := by
  have G_read_tree := ok_read_tree (P := P) (w := w) (base := base) (cv := cv) T
  have nd := sc_law_right.nd
  exact fn_pure (body := b_law_right) [false, false] T.F_law_right sc_law_right f_law_right rfl (by decide) rfl (fun cdv AA outer s H E hr => by
    have tk := takes_of (X := cxOf (L2.CX P w) P w K mg base ["_law_text", "_law_due_here", "_law_caught", "_law_found", "e"] "_law_right" (defScope s_law_right) A.a_law_right cdv AA outer s H E) rfl rfl rfl rfl
    exact (xs_cons (xs_set (i := 2) nd rfl (Or.inl rfl) xe_non)
    (xs_cons (xs_set (i := 3) nd rfl (Or.inl rfl) xe_non)
    (xs_cons (xs_tryV (i := 4) (by decide) rfl rfl rfl nd rfl rfl ⟨by rfl, by decide, Or.inl T.N_CellError⟩ tk (by
      intro k hk
      simp only [List.mem_cons, List.not_mem_nil, or_false] at hk
      subst hk
      · rw [T.V_NoText]; exact kit_to (by decide) (exm_of T.L_CellError T.Y_CellError T.S_NoText_CellError)
      ) (by
      intro k hk
      simp only [List.mem_cons, List.not_mem_nil, or_false] at hk
      subst hk
      · exact ⟨_, T.V_NoText, T.W_NoText⟩
      ) (fun W pn xe tk po => (xs_one (xs_set (i := 3) nd rfl (Or.inl rfl) (xe_call (ban := 1000) tk G_read_tree (hr.mono (by decide)) (by rfl) T.M_read_tree T.F_read_tree.kp T.B_read_tree (xm_val (xe_var 0) xm_nil)))))
    (fun a pn => (xs_one (xs_set (i := 2) nd rfl (Or.inl rfl) (xe_var 4)))))
    (xs_cons (xs_if (xt_cmp op_notN imp_isNot (xe_var 1) xe_non (nomark _))
    (xs_one (xs_ret (xe_and (xe_cmp op_isN imp_is (xe_var 2) xe_non (nomark _)) (xe_one (xe_cmp (op_eqD hr.units) imp_eq (xe_var 3) (xe_var 1) (nomark _))))))
    xs_nil)
    (xs_one (xs_ret (xe_and (xe_isX1 (IsK.mk (R := ["NoText"]) (f := fun k => isX k ["NoText"]) (by
      intro k hk C hC
      simp only [List.mem_cons, List.not_mem_nil, or_false] at hk
      subst hk
      · obtain rfl := hC.uniq T.W_NoText; exact ⟨T.E_NoText, kit_to (by decide) (kit_cons (kit_ref T.L_NoText T.S_NoText_NoText) kit_nil)⟩
      ) (kit_to (by decide) (kit_cons (kit_refT T.L_NoText (fun z => nomatch z) T.U_NoText) kit_nil))) (.own _) (by rfl) T.Z_isinstance (xe_var 2) (pe_glob (v := .ref A.c_NoText) (by rfl) T.N_NoText rfl (by decide))) (xe_and (xe_isX1 (IsK.mk (R := ["NoText"]) (f := fun k => isX k ["ValueError"]) (by
      intro k hk C hC
      simp only [List.mem_cons, List.not_mem_nil, or_false] at hk
      subst hk
      · obtain rfl := hC.uniq T.W_NoText; exact ⟨T.E_NoText, kit_to (by decide) (kit_cons (kit_tyE meta_ValueError T.S_NoText_ValueError) kit_nil)⟩
      ) (kit_to (by decide) (kit_cons kit_nonE kit_nil))) (.ty "ValueError") (by rfl) T.Z_isinstance (xe_var 2) (pe_bltn (v := .ty "ValueError") (by rfl) T.Z_ValueError bt_ValueError rfl (by decide) (by decide))) (xe_one (xe_not (xe_isXT (IsK.mk (R := ["NoText"]) (f := fun k => isX k ["NoName", "NoRule"]) (by
      intro k hk C hC
      simp only [List.mem_cons, List.not_mem_nil, or_false] at hk
      subst hk
      · obtain rfl := hC.uniq T.W_NoText; exact ⟨T.E_NoText, kit_to (by decide) (kit_cons (kit_ref T.L_NoName T.S_NoText_NoName) (kit_cons (kit_ref T.L_NoRule T.S_NoText_NoRule) kit_nil))⟩
      ) (kit_to (by decide) (kit_cons (kit_refT T.L_NoName (fun z => nomatch z) T.U_NoName) (kit_cons (kit_refT T.L_NoRule (fun z => nomatch z) T.U_NoRule) kit_nil)))) (by rfl) T.Z_isinstance (xe_var 2) (ClsNs.ref (by rfl) T.N_NoName (by decide) (ClsNs.ref (by rfl) T.N_NoRule (by decide) ClsNs.nil)) (by show 2 ≤ sizeLine; exact szn (by decide))))))))))))))
theorem ok_law (T : Txt K mg cv A) : FnOk P w K mg base (L2.CX P w) 19 A.a_law A.d_law ["_law_script"] (spP K cv false [false] f_law) := by
  have G_law_pen := ok_law_pen (P := P) (w := w) (base := base) (cv := cv) T
  have G_law_draw := ok_law_draw (P := P) (w := w) (base := base) (cv := cv) T
  have G_law_words := ok_law_words (P := P) (w := w) (base := base) (cv := cv) T
  have G_law_due := ok_law_due (P := P) (w := w) (base := base) (cv := cv) T
  have G_law_spoilt := ok_law_spoilt (P := P) (w := w) (base := base) (cv := cv) T
  have G_law_full := ok_law_full (P := P) (w := w) (base := base) (cv := cv) T
  have G_law_right := ok_law_right (P := P) (w := w) (base := base) (cv := cv) T
  have nd := sc_law.nd
  exact fn_pure (body := b_law) [false] T.F_law sc_law f_law rfl (by decide) rfl (fun cdv AA outer s H E hr => by
    have tk := takes_of (X := cxOf (L2.CX P w) P w K mg base ["_law_script", "_law_k", "_law_pen_here", "_law_words_here", "_law_text", "_law_spoilt_here", "_law_thing", "_law_full_here", "_law_deep"] "law" (defScope s_law) A.a_law cdv AA outer s H E) rfl rfl rfl rfl
    exact (xs_cons (xs_for (passes_of rfl) rfl (xi_range1 (by rfl) T.Z_range xe_int) (xg_name nd rfl (Or.inl rfl))
    (xs_cons (xs_setO (i := 2) nd rfl (Or.inl rfl) (xn_call (ban := 1000) tk G_law_pen (hr.mono (by decide)) (by rfl) T.M_law_pen T.F_law_pen.kp T.B_law_pen (xm_val (xe_var 0) (xm_val (xe_var 1) xm_nil))))
    (xs_cons (xs_set (i := 3) nd rfl (Or.inl rfl) (xe_callTA (ban := 1000) tk G_law_words (hr.mono (by decide)) (by rfl) T.M_law_words T.F_law_words.kp T.B_law_words (pv 2) (xn_lst (xa_cons (xe_callBor tk G_law_draw (hr.mono (by decide)) (by rfl) T.M_law_draw T.F_law_draw.kp T.B_law_draw (pv 2) (xm_val xe_int xm_nil)) xa_nil)) (xm_val xe_int xm_nil)))
    (xs_cons (xs_set (i := 4) nd rfl (Or.inl rfl) (xe_join xe_str (xe_var 3)))
    (xs_cons (xs_set (i := 5) nd rfl (Or.inl rfl) (xe_callBor tk G_law_spoilt (hr.mono (by decide)) (by rfl) T.M_law_spoilt T.F_law_spoilt.kp T.B_law_spoilt (pv 2) (xm_val (xe_var 3) xm_nil)))
    (xs_one (xs_if (PW.pt (xw_or (xt_not (xt_val (xe_call (ban := 1000) tk G_law_right (hr.mono (by decide)) (by rfl) T.M_law_right T.F_law_right.kp T.B_law_right (xm_val (xe_var 5) (xm_val (xe_call (ban := 1000) tk G_law_due (hr.mono (by decide)) (by rfl) T.M_law_due T.F_law_due.kp T.B_law_due (xm_val (xe_var 5) xm_nil)) xm_nil))))) (xw_or1 (xt_not (xt_val (xe_call (ban := 1000) tk G_law_right (hr.mono (by decide)) (by rfl) T.M_law_right T.F_law_right.kp T.B_law_right (xm_val (xe_var 4) (xm_val (xe_call (ban := 1000) tk G_law_due (hr.mono (by decide)) (by rfl) T.M_law_due T.F_law_due.kp T.B_law_due (xm_val (xe_var 4) xm_nil)) xm_nil))))))))
    (xs_one (xs_ret xe_bl))
    xs_nil)))))))
    (xs_cons (xs_for (passes_of rfl) rfl (xi_seq (of_new (xn_lst (xa_cons xe_non (xa_cons xe_int (xa_cons xe_bl (xa_cons (of_new (xn_lst xa_nil)) (xa_cons (of_new (xn_lst (xa_cons xe_str xa_nil))) (xa_cons (xe_tup (xa_cons xe_str xa_nil)) (xa_cons (of_new xn_dnewT) (xa_cons xe_str (xa_cons xe_str (xa_cons xe_str (xa_cons xe_str (xa_cons xe_str (xa_cons xe_str (xa_cons xe_str (xa_cons xe_str xa_nil)))))))))))))))))) (xg_name nd rfl (Or.inl rfl))
    (xs_one (xs_if (xt_not (xt_val (xe_call (ban := 1000) tk G_law_right (hr.mono (by decide)) (by rfl) T.M_law_right T.F_law_right.kp T.B_law_right (xm_val (xe_var 6) (xm_val xe_non xm_nil)))))
    (xs_one (xs_ret xe_bl))
    xs_nil)))
    (xs_cons (xs_set (i := 7) nd rfl (Or.inl rfl) (xe_join xe_str (of_new (xn_call (ban := 1000) tk G_law_full (hr.mono (by decide)) (by rfl) T.M_law_full T.F_law_full.kp T.B_law_full (xm_val xe_int xm_nil)))))
    (xs_cons (xs_if (PW.pt (xw_or (xt_cmp op_isN imp_is (xe_call (ban := 1000) tk G_law_due (hr.mono (by decide)) (by rfl) T.M_law_due T.F_law_due.kp T.B_law_due (xm_val (xe_var 7) xm_nil)) xe_non (nomark _)) (xw_or1 (xt_not (xt_val (xe_call (ban := 1000) tk G_law_right (hr.mono (by decide)) (by rfl) T.M_law_right T.F_law_right.kp T.B_law_right (xm_val (xe_var 7) (xm_val (xe_call (ban := 1000) tk G_law_due (hr.mono (by decide)) (by rfl) T.M_law_due T.F_law_due.kp T.B_law_due (xm_val (xe_var 7) xm_nil)) xm_nil))))))))
    (xs_one (xs_ret xe_bl))
    xs_nil)
    (xs_cons (xs_set (i := 8) nd rfl (Or.inl rfl) (of_new (xn_lst (xa_cons (xe_join xe_str (of_new (xn_op2R op_rep imp_repL (of_new (xn_lst (xa_cons xe_str xa_nil))) xe_int))) (xa_cons (xe_join xe_str (xe_op2R op_addAll imp_add (of_new (xn_op2R op_rep imp_repL (of_new (xn_lst (xa_cons xe_str xa_nil))) xe_int)) (of_new (xn_op2R op_rep imp_repL (of_new (xn_lst (xa_cons xe_str xa_nil))) xe_int)))) (xa_cons (xe_join xe_str (xe_op2R op_addAll imp_add (of_new (xn_op2R op_rep imp_repL (of_new (xn_lst (xa_cons xe_str (xa_cons xe_str xa_nil)))) xe_int)) (of_new (xn_lst (xa_cons xe_str xa_nil))))) xa_nil))))))
    (xs_one (xs_ret (xe_callB (cr_all rfl) imp_all (by rfl) T.Z_all bt_all (xa_cons (of_new (xn_lc (own := [("_law_text", 4)]) rfl nd (xi_seq (xe_var 8)) (blkOk_by (own := [("_law_text", 4)]) (N := ["_law_script", "_law_k", "_law_pen_here", "_law_words_here", "_law_text", "_law_spoilt_here", "_law_thing", "_law_full_here", "_law_deep"]) (sc := defScope s_law) (by decide +kernel)) (fun _ _ _ _ _ => (xg_nameW nd rfl (Or.inl rfl))) (fun _ _ _ _ _ => xts_nil) (fun _ _ _ _ _ => (xe_call (ban := 1000) takes0 G_law_right (hr.mono (by decide)) (by rfl) T.M_law_right T.F_law_right.kp T.B_law_right (xm_val (xe_var 4) (xm_val xe_non xm_nil)))))) xa_nil))))))))))
end
local macro_rules | `(tactic| simp! [$ls,*] $[$loc:location]?) => `(tactic| simp only [zaa, zab, zac, zad, zae, zaf, zag, zah, zai, zaj, zak, zal, zam, zan, zao, zap, zaq, zar, zas, zat, zau, zav, zaw, zax, zay, zaz, zaA, zaB, zaC, zaD, zaE, zaF, zaG, zaH, zaI, zaJ, zaK, zaL, zaM, zaN, zaO, zaP, zaQ, zaR, zaS, zaT, zaU, zaV, zaW, zaX, zaY, zaZ, zba, zbb, zbc, zbd, zbe, zbf, zbg, zbh, zbi, zbj, zbk, zbl, zbm, zbn, zbo, zbp, zbq, zbr, zbs, zbt, zbu, zbv, zbw, zbx, zby, zbz, zbA, zbB, zbC, zbD, zbE, zbF, zbG, zbH, zbI, zbJ, zbK, zbL, zbM, zbN, zbO, zbP, zbQ, zbR, zbS, zbT, zbU, zbV, zbW, zbX, zbY, zbZ, zca, zcb, zcc, zcd, zce, zcf, zcg, zch, zci, zcj, zck, zcl, zcm, zcn, zco, zcp, zcq, zcr, zcs, zct, zcu, zcv, zcw, zcx, zcy, zcz, zcA, zcB, zcC, zcD, zcE, zcF, zcG, zcH, zcI, zcJ, zcK, zcL, zcM, zcN, zcO, zcP, zcQ, zcR, zcS, zcT, zcU, zcV, zcW, zcX, zcY, zcZ, zda, zdb, zdc, zdd, zde, zdf, zdg, zdh, zdi, zdj, zdk, zdl, zdm, zdn, zdo, zdp, zdq, zdr, zds, zdt, zdu, zdv, zdw, zdx, zdy, zdz, zdA, zdB, zdC, zdD, zdE, zdF, zdG, zdH, zdI, zdJ, zdK, zdL, zdM, zdN, zdO, zdP, zdQ, zdR, zdS, zdT, zdU, zdV, G.of_f, G.of_t, zdW, zdX, zdY, zdZ, zea, zeb, zec, zed, zee, zef, zeg, zeh, zei, zej, zek, zel, zem, zen, zeo, zep, zeq, zer, zes, zet, zeu, zev, zew, zex, zey, zez, zeA, zeB, zeC, zeD, zeE, zeH, zeI, zeJ, zeK, zeL, zeM, zeN, zeO, zeX, zeY, zeZ, zfa, zfb, zfc, G.sz_1, G.sz_2, G.sz_3, G.sz_4, G.sz_0, zfd, zff, zfg, zfh, zfi, zfj, zfn, zfo, zfp, zfq, zfr, zfs, zft, zfu, zfw, G.nc_0, G.nc_1, G.nc_2, G.nc_3, G.nc_4, G.nc_5, G.nc_6, G.nc_7, G.nc_8, G.nc_9, zfx, zfy, zfz, zfA, zfB, zfC, zfD, zfE, zfF, zfG, zfH, zfK, zfL, zfM, zfN, zfO, zfV, zgq, zgr, zgC, zgD, zgE, zgF, zgG, zgH, zgI, zgJ, zhi, zhj, zhk, zhn, zho, zhZ, zia, zib, zic, G.jT_f, G.jT_t, ziZ, zja, zjb, zjc, zjd, zje, zjf, zjg, zkk, zkl, zkp, zkq, zkr, zks, zku, zkw, zkx, zkZ, zla, zlb, zlc, zld, zle, zlf, zlg, zlh, zli, zlj, zlk, zll, zlm, zlG, zlH, zlI, List.getElem?_cons_zero, List.getElem?_cons_succ, List.set_cons_zero, List.set_cons_succ, G.atI_0, G.atI_1, G.atI_2, G.atI_3, Option.map_some, Option.bind_some, G.eqD_int, G.eqD_cell, G.eqD_bl, List.length_cons, List.length_nil, List.getD_cons_zero, List.getD_cons_succ, Bool.and_true, Bool.and_self, decide_true, decide_false, Bool.not_true, Bool.not_false, List.append_nil, List.nil_append, List.cons_append, if_true, if_false, Bool.false_eq_true, reduceIte, Int.reduceLT, Int.reduceLE, Int.reduceToNat, Int.reducePow, Int.reduceNeg, Int.reduceAdd, Int.reduceSub, Int.reduceMul, Nat.reduceAdd, Int.reduceEq, List.replicate, Nat.reduceSub, and_self, and_true, true_and, $ls,*] $[$loc]?)
open PySem PySem.Spec PyProof.Rows L2 G
def figsL (l : List Nat) : List Nat := if l.head? = some 45 then l.drop 1 else l
def okW (l : List Nat) : Bool := decide (1 ≤ (figsL l).length ∧ (figsL l).length ≤ 60) && (figsL l).all (fun c => decide (c ∈ [48, 49, 50, 51, 52, 53, 54, 55, 56, 57])) && !(decide ((figsL l).head? = some 48) && !decide (l = [48]))
def valW (l : List Nat) : Int := if l.head? = some 45 then -((NumText.digitsVal (l.drop 1) : Nat) : Int) else ((NumText.digitsVal l : Nat) : Int)
theorem figs : ("0123456789" : Str) = mkS [48, 49, 50, 51, 52, 53, 54, 55, 56, 57] := by kernel_rfl
theorem dash_is : ("-" : Str) = mkS [45] := by kernel_rfl
theorem zero_is : ("0" : Str) = mkS [48] := by kernel_rfl
theorem comma_is : ("," : Str) = mkS [44] := by kernel_rfl
theorem in_figs {c : Nat} : c ∈ [48, 49, 50, 51, 52, 53, 54, 55, 56, 57] ↔ 48 ≤ c ∧ c ≤ 57 := by
  simp only [List.mem_cons, List.not_mem_nil, or_false]
  omega
theorem all_dg {l : List Nat} (h : l.all (fun c => decide (c ∈ [48, 49, 50, 51, 52, 53, 54, 55, 56, 57])) = true) : NumText.AllDigits l := fun c hc => by
  have := List.all_eq_true.mp h c hc
  rw [decide_eq_true_eq] at this
  exact in_figs.mp this
theorem dIntS_tx (l : List Nat) (h : l.length ≤ 640) : dIntS [tx l] = (PySem.intText? (mkS l)).map .int := by
  show (if (mkS l).length ≤ 640 then _ else none) = _
  rw [if_pos (by rw [mkS_len]; exact h)]
theorem int_okW {l : List Nat} (h : okW l = true) : dIntS [tx l] = some (.int (valW l)) := by
  unfold okW at h
  rw [Bool.and_eq_true, Bool.and_eq_true, decide_eq_true_eq] at h
  obtain ⟨⟨⟨h1, h2⟩, h3⟩, _⟩ := h
  unfold valW
  by_cases hd : l.head? = some 45
  · unfold figsL at h1 h2 h3
    rw [if_pos hd] at h1 h2 h3 ⊢
    obtain ⟨r, rfl⟩ : ∃ r, l = 45 :: r := by
      cases l with
      | nil => cases hd
      | cons a r => cases hd; exact ⟨r, rfl⟩
    rw [List.drop_one, List.tail_cons] at h1 h2 h3 ⊢
    rw [dIntS_tx _ (by rw [List.length_cons]; omega), PySem.intText_neg (cs := r) rfl (all_dg h3) (by intro z; rw [z] at h1; exact absurd h1 (by decide)) (by rw [mkS_len, List.length_cons]; omega)]
    rfl
  · unfold figsL at h1 h2 h3
    rw [if_neg hd] at h1 h2 h3 ⊢
    have e : NumText.AllDigits (mkS l).cps.toList := all_dg h3
    rw [dIntS_tx _ (by omega), PySem.intText_digits e (by intro z; have z : l = [] := z; rw [z] at h1; exact absurd h1 (by decide)) (by rw [mkS_len]; omega)]
    rfl
theorem whole_isA {l : List Nat} (hl : l.length ≤ 90000) (ho : OkS l) : f_whole_in [tx l] = .ok (if okW l = true then .int (valW l) else .non) [] := by
  have e45 : tx [45] = D.str (mkS [45]) := rfl
  have st := tx_starts1 45 l
  rw [e45] at st
  have cu := tx_cut (l := l) (some 1) none (by omega)
  have ec : cutG l (some 1) none = l.drop 1 := cutG_from l 1
  rw [ec] at cu
  have hst : isStr (tx l) = true := rfl
  have two : ∀ (f : List Nat), (f = figsL l) → ∀ A : XS, True := fun _ _ _ => trivial
  have fl : (figsL l).length ≤ 90000 := by
    unfold figsL
    split
    · rw [List.length_drop]; omega
    · exact hl
  have fo : OkS (figsL l) := by
    unfold figsL
    split
    · exact ho.sub fun c hc => List.mem_of_mem_drop hc
    · exact ho
  have ln := tx_len (l := figsL l) (by omega)
  have it := tx_items (figsL l)
  have zt : ((figsL l).map fun c => tx [c]).length ≤ sizeLine := by rw [List.length_map]; exact szH (by omega)
  have run := lcMap (g := gSet 2) (tt := xYes) (te := xOp2 dInSg (xVar 2) (xC (.str "0123456789"))) (vs := [2]) (ρ := [.val (tx l), .val (tx (figsL l)), .emp]) (e1 := fun c => tx [c]) D.bl (fun c : Nat => decide (c ∈ [48, 49, 50, 51, 52, 53, 54, 55, 56, 57])) (l := figsL l) (fun c _ => by
    have h := tx_in c [48, 49, 50, 51, 52, 53, 54, 55, 56, 57]
    have h : dInSg (tx [c]) (.str "0123456789") = some (.bl (decide (c ∈ [48, 49, 50, 51, 52, 53, 54, 55, 56, 57]))) := by rw [figs]; exact h
    generalize decide (c ∈ [48, 49, 50, 51, 52, 53, 54, 55, 56, 57]) = B at *
    generalize tx [c] = C at *
    generalize tx l = L at *
    generalize tx (figsL l) = FL at *
    simp! [h])
  have al := all_bl ((figsL l).map fun c : Nat => decide (c ∈ [48, 49, 50, 51, 52, 53, 54, 55, 56, 57]))
  rw [List.all_map] at al
  have al : dAll [.lst (((figsL l).map fun c : Nat => decide (c ∈ [48, 49, 50, 51, 52, 53, 54, 55, 56, 57])).map D.bl)] = some (.bl ((figsL l).all fun c => decide (c ∈ [48, 49, 50, 51, 52, 53, 54, 55, 56, 57]))) := al
  have zb : (((figsL l).map fun c : Nat => decide (c ∈ [48, 49, 50, 51, 52, 53, 54, 55, 56, 57])).map D.bl).length ≤ sizeLine := by rw [List.length_map, List.length_map]; exact szH (by omega)
  have q0 := tx_eq (a := l) (b := [48]) ho (fun c hc => by rw [List.mem_singleton.mp hc]; decide)
  have iok := int_okW (l := l)
  have ix : 1 ≤ (figsL l).length → dIx (tx (figsL l)) (.int 0) = some (tx [(figsL l).headD 0]) ∧ eqD (tx [(figsL l).headD 0]) (.str (mkS [48])) = some (decide ((figsL l).head? = some 48)) := fun h => by
    cases hf : figsL l with
    | nil => rw [hf] at h; exact absurd h (by decide)
    | cons a r =>
      rw [hf] at fl fo
      refine ⟨by rw [tx_ix 0 (by omega), show atI (a :: r) 0 = some a from atI_nat (xs := a :: r) (j := 0) (v := a) rfl]; rfl, ?_⟩
      have := tx_eq (a := [a]) (b := [48]) (fun c hc => by rw [List.mem_singleton.mp hc]; exact fo a (List.mem_cons_self ..)) (fun c hc => by rw [List.mem_singleton.mp hc]; decide)
      show eqD (tx [a]) (tx [48]) = _
      rw [this]
      congr 1
      rw [decide_eq_decide]
      simp
  have eok : okW l = (decide (1 ≤ (figsL l).length ∧ (figsL l).length ≤ 60) && (figsL l).all (fun c => decide (c ∈ [48, 49, 50, 51, 52, 53, 54, 55, 56, 57])) && !(decide ((figsL l).head? = some 48) && !decide (l = [48]))) := rfl
  have edash : D.str "-" = .str (mkS [45]) := by rw [dash_is]
  have body : ∀ (ρ : Rho), ρ = [.val (tx l), .val (tx (figsL l)), .emp] → endP false ((xSeq (xIfS (xOr (xNot (xTest (xChain (dCmp fun i j => decide (i ≤ j)) (dCmp fun i j => decide (i ≤ j)) (xC (.int 1)) (xOpL dLen (xCons (xVar 1) xNil)) (xC (.int 60))))) (xNot (xTest (xOpL dAll (xCons (xLC (xItSg (xVar 1)) (gSet 2) xYes (xOp2 dInSg (xVar 2) (xC (.str "0123456789"))) [2]) xNil)))))
    (xRet (xC .non))
    xNext)
    (xSeq (xIfS (xAnd (xTest (xOp2 dEq (xOp2 dIx (xVar 1) (xC (.int 0))) (xC (.str "0")))) (xTest (xOp2 dNe (xVar 0) (xC (.str "0")))))
    (xRet (xC .non))
    xNext)
    (xRet (xOpL dIntS (xCons (xVar 0) xNil))))) ρ) = .ok (if okW l = true then .int (valW l) else .non) [] := by
    intro ρ hρ
    subst hρ
    rw [zero_is]
    by_cases hlen : 1 ≤ (figsL l).length ∧ (figsL l).length ≤ 60
    rotate_left
    · rw [eok, decide_eq_false hlen, Bool.false_and, Bool.false_and, if_neg Bool.false_ne_true]
      generalize tx l = L at *
      generalize tx (figsL l) = FL at *
      by_cases h1 : (1 : Int) ≤ ((figsL l).length : Int)
      · have h2 : ¬ ((figsL l).length : Int) ≤ 60 := by omega
        generalize ((figsL l).length : Int) = N at *
        simp! [ln, h1, h2]
      · generalize ((figsL l).length : Int) = N at *
        simp! [ln, h1]
    · have h1 : (1 : Int) ≤ ((figsL l).length : Int) := by omega
      have h2 : ((figsL l).length : Int) ≤ 60 := by omega
      obtain ⟨ix1, ix2⟩ := ix hlen.1
      rw [decide_eq_true hlen, Bool.true_and] at eok
      have q0 : eqD (tx l) (.str (mkS [48])) = some (decide (l = [48])) := q0
      generalize valW l = V at *
      generalize okW l = OK at *
      generalize (figsL l).all (fun c => decide (c ∈ [48, 49, 50, 51, 52, 53, 54, 55, 56, 57])) = AB at *
      generalize decide ((figsL l).head? = some 48) = HB at *
      generalize decide (l = [48]) = LB at *
      generalize ((figsL l).length : Int) = N at *
      generalize (((figsL l).map fun c : Nat => decide (c ∈ [48, 49, 50, 51, 52, 53, 54, 55, 56, 57])).map D.bl) = BL at *
      generalize ((figsL l).map fun c => tx [c]) = TL at *
      generalize tx l = L at *
      generalize tx (figsL l) = FL at *
      generalize tx [(figsL l).headD 0] = HD at *
      subst eok
      cases AB with
      | false =>
        simp! [ln, h1, h2, it, zt, run, zb, al]
        rfl
      | true =>
        cases HB with
        | false =>
          have iok := iok rfl
          simp! [ln, h1, h2, it, zt, run, zb, al, ix1, ix2, iok]
          cases LB <;> rfl
        | true =>
          cases LB with
          | false =>
            simp! [ln, h1, h2, it, zt, run, zb, al, ix1, ix2, q0]
            rfl
          | true =>
            have iok := iok rfl
            simp! [ln, h1, h2, it, zt, run, zb, al, ix1, ix2, q0, iok]
            rfl
  have b2 := body [.val (tx l), .val (tx (figsL l)), .emp] rfl
  unfold f_whole_in b_whole_in
  rw [dash_is]
  generalize (xSeq (xIfS (xOr (xNot (xTest (xChain (dCmp fun i j => decide (i ≤ j)) (dCmp fun i j => decide (i ≤ j)) (xC (.int 1)) (xOpL dLen (xCons (xVar 1) xNil)) (xC (.int 60))))) (xNot (xTest (xOpL dAll (xCons (xLC (xItSg (xVar 1)) (gSet 2) xYes (xOp2 dInSg (xVar 2) (xC (.str "0123456789"))) [2]) xNil)))))
    (xRet (xC .non))
    xNext)
    (xSeq (xIfS (xAnd (xTest (xOp2 dEq (xOp2 dIx (xVar 1) (xC (.int 0))) (xC (.str "0")))) (xTest (xOp2 dNe (xVar 0) (xC (.str "0")))))
    (xRet (xC .non))
    xNext)
    (xRet (xOpL dIntS (xCons (xVar 0) xNil))))) = REST at *
  by_cases hd : l.head? = some 45
  · have ef : figsL l = l.drop 1 := if_pos hd
    rw [ef] at b2
    rw [decide_eq_true hd] at st
    generalize (if okW l = true then D.int (valW l) else .non) = RES at *
    generalize tx (l.drop 1) = FL at *
    generalize tx l = L at *
    simp! [hst, st, cu]
    exact b2
  · have ef : figsL l = l := if_neg hd
    rw [ef] at b2
    rw [decide_eq_false hd] at st
    generalize (if okW l = true then D.int (valW l) else .non) = RES at *
    generalize tx l = L at *
    simp! [hst, st]
    exact b2

/-! ### numbers written and read -/
theorem all_map {α : Type} (f : α → Bool) (l : List α) : dAll [.lst (l.map fun a => D.bl (f a))] = some (.bl (l.all f)) := by
  have bools : ∀ l : List α, dBools (l.map fun a => D.bl (f a)) = some (l.map f) := fun l => by
    induction l with
    | nil => rfl
    | cons a l ih =>
      show (dBools (l.map fun a => D.bl (f a))).map _ = _
      rw [ih]
      rfl
  show (dBools (l.map fun a => D.bl (f a))).map _ = _
  rw [bools]
  show some (D.bl _) = _
  rw [List.all_map]
  rfl
def whD (p : List Nat) : D := if okW p = true then .int (valW p) else .non
def corn (p : List Nat) : Option (Int × Int) := match sp1 44 p with
  | [x, y] => if okW x = true ∧ okW y = true then some (valW x, valW y) else none
  | _ => none
def cornD : Option (Int × Int) → D
  | some c => .tup [.int c.1, .int c.2]
  | none => .non
theorem sub_of_sp {s : Nat} {l p : List Nat} (h : p ∈ sp1 s l) : ∀ c ∈ p, c ∈ l := by
  have key : ∀ (ls : List (List Nat)), ∀ p ∈ ls, ∀ c ∈ p, c ∈ TL.joinL [s] ls := by
    intro ls
    induction ls with
    | nil => intro p hp; cases hp
    | cons a r ih =>
      intro p hp c hc
      cases r with
      | nil =>
        rw [List.mem_singleton.mp hp] at hc
        exact hc
      | cons b r =>
        show c ∈ a ++ ([s] ++ TL.joinL [s] (b :: r))
        rcases List.mem_cons.mp hp with rfl | hp
        · exact List.mem_append_left _ hc
        · exact List.mem_append_right _ (List.mem_append_right _ (ih p hp c hc))
  intro c hc
  have := key _ p h c hc
  rwa [sp1_join s _ l (Nat.le_refl _)] at this
theorem len_of_sp {s : Nat} {l p : List Nat} (h : p ∈ sp1 s l) : p.length ≤ l.length := by
  have key : ∀ (ls : List (List Nat)), ∀ p ∈ ls, p.length ≤ (TL.joinL [s] ls).length := by
    intro ls
    induction ls with
    | nil => intro p hp; cases hp
    | cons a r ih =>
      intro p hp
      cases r with
      | nil =>
        rw [List.mem_singleton.mp hp]
        exact Nat.le_refl _
      | cons b r =>
        show p.length ≤ (a ++ ([s] ++ TL.joinL [s] (b :: r))).length
        rw [List.length_append, List.length_append]
        rcases List.mem_cons.mp hp with rfl | hp
        · omega
        · have := ih p hp
          omega
  have := key _ p h
  rwa [sp1_join s _ l (Nat.le_refl _)] at this
theorem non_in (x y : List Nat) : dInX .non (.lst [whD x, whD y]) = some (.bl (!(decide (okW x = true ∧ okW y = true)))) := by
  unfold whD
  cases okW x with
  | true =>
    cases okW y with
    | true =>
      rw [if_pos rfl, if_pos rfl]
      generalize valW x = a
      generalize valW y = b
      kernel_rfl
    | false =>
      rw [if_pos rfl, if_neg Bool.false_ne_true]
      generalize valW x = a
      kernel_rfl
  | false =>
    rw [if_neg Bool.false_ne_true]
    cases okW y with
    | true =>
      rw [if_pos rfl]
      generalize valW y = a
      kernel_rfl
    | false =>
      rw [if_neg Bool.false_ne_true]
      kernel_rfl
theorem cell_in_gen {p : List Nat} (hl : p.length ≤ 80000) (ho : OkS p) : f_cell_in [tx p] = .ok (cornD (corn p)) [] := by
  have sp := tx_split1 (s := 44) (l := p) (by decide) (by omega)
  have sp : dSplit (tx p) (.str ",") = some (.lst ((sp1 44 p).map tx)) := by rw [comma_is]; exact sp
  have hst : isStr (tx p) = true := rfl
  have zl : (sp1 44 p).length ≤ 80001 := by rw [sp1_len 44 _ p (Nat.le_refl _)]; have := List.count_le_length (a := 44) (l := p); omega
  have zt : ((sp1 44 p).map tx).length ≤ sizeLine := by rw [List.length_map]; exact szH (by omega)
  have run := lcMap (g := gSet 2) (tt := xYes) (te := xCall f_whole_in (xCons (xVar 2) xNil)) (vs := [2]) (ρ := [.val (tx p), .emp, .emp]) (e1 := tx) (fun d : D => d) whD (l := sp1 44 p) (fun q hq => by
    have w := whole_isA (l := q) (by have := len_of_sp hq; omega) (ho.sub (sub_of_sp hq))
    have w : f_whole_in [tx q] = .ok (whD q) [] := w
    generalize whD q = W at *
    generalize tx q = Q at *
    generalize tx p = P at *
    simp! [w])
  rw [List.map_id'] at run
  have zw : ((sp1 44 p).map whD).length ≤ sizeLine := by rw [List.length_map]; exact szH (by omega)
  have lw : (((sp1 44 p).map whD).length : Int) = ((sp1 44 p).length : Int) := by rw [List.length_map]
  by_cases h2 : (sp1 44 p).length = 2
  · obtain ⟨x, y, e⟩ : ∃ x y, sp1 44 p = [x, y] := by
      match hq : sp1 44 p, h2 with
      | [a, b], _ => exact ⟨a, b, rfl⟩
    have ec : corn p = if okW x = true ∧ okW y = true then some (valW x, valW y) else none := by unfold corn; rw [e]
    rw [e] at sp zt run zw
    simp only [List.map_cons, List.map_nil] at sp zt run zw
    have ni := non_in x y
    rw [ec]
    have s2 : 2 ≤ sizeLine := szH (by decide)
    unfold f_cell_in b_cell_in
    by_cases hk : okW x = true ∧ okW y = true
    · rw [if_pos hk]
      rw [decide_eq_true hk] at ni
      have w1 : whD x = .int (valW x) := if_pos hk.1
      have w2 : whD y = .int (valW y) := if_pos hk.2
      rw [w1, w2] at run ni
      show _ = FR.ok (D.tup [.int (valW x), .int (valW y)]) []
      generalize valW x = a at *
      generalize valW y = b at *
      generalize tx x = A at *
      generalize tx y = B at *
      generalize tx p = P at *
      simp! [hst, sp, s2, run, ni]
    · rw [if_neg hk]
      rw [decide_eq_false hk] at ni
      show _ = FR.ok .non []
      generalize whD x = a at *
      generalize whD y = b at *
      generalize tx x = A at *
      generalize tx y = B at *
      generalize tx p = P at *
      simp! [hst, sp, s2, run, ni]
  · have ec : corn p = none := by
      unfold corn
      split
      · rename_i x y e
        rw [e] at h2
        exact absurd rfl h2
      · rfl
    have h2' : ¬ (((sp1 44 p).map whD).length : Int) = 2 := by rw [List.length_map]; omega
    rw [ec]
    show _ = FR.ok .non []
    unfold f_cell_in b_cell_in
    generalize (sp1 44 p).map whD = W at *
    generalize (sp1 44 p).map tx = TT at *
    generalize tx p = P at *
    simp! [hst, sp, zt, run, zw, h2']
/-! rows -/

theorem draw_is : f_law_draw = fDraw := rfl
theorem pen_is : f_law_pen = fPen := rfl
/-! ### whole numbers as texts -/
theorem numL_okS (n : Nat) : ∀ c ∈ TL.numL n, 48 ≤ c ∧ c ≤ 57 := fun c hc => TL.numL_digits n c hc
theorem numZ_okS (n : Int) : ∀ c ∈ numZ n, c = 45 ∨ (48 ≤ c ∧ c ≤ 57) := fun c hc => by
  unfold numZ at hc
  split at hc
  · exact .inr (numL_okS _ c hc)
  · rcases List.mem_cons.mp hc with rfl | hc
    · exact .inl rfl
    · exact .inr (numL_okS _ c hc)
theorem numZ_free {n : Int} {s : Nat} (h : s < 45 ∨ 57 < s ∨ s = 46 ∨ s = 47) : s ∉ numZ n := fun hc => by
  rcases numZ_okS n s hc with h | h <;> omega
def cellT (l t : Int) : List Nat := numZ l ++ 44 :: numZ t
inductive T3T where
  | fnd | cut (c : Int × Int) | tri (c : Int × Int) (d a : T3T)
def T3T.d : T3T → D
  | .fnd => .tup [.str "found"]
  | .cut c => .tup [.str "cut", cellP c]
  | .tri c d a => .tup [.str "try", cellP c, d.d, a.d]
def T3T.py : T3T → PyData
  | .fnd => .tuple [.str "found"]
  | .cut c => .tuple [.str "cut", .tuple [.int c.1, .int c.2]]
  | .tri c d a => .tuple [.str "try", .tuple [.int c.1, .int c.2], d.py, a.py]
/-- tries one within another -/
def T3T.h : T3T → Nat
  | .tri _ d a => 1 + max d.h a.h
  | _ => 0
def T3T.ws : T3T → List (List Nat)
  | .fnd => [[43]]
  | .cut c => [33 :: cellT c.1 c.2]
  | .tri c d a => (63 :: cellT c.1 c.2) :: (d.ws ++ a.ws)
theorem T3T.toPy : ∀ t : T3T, G.toPy t.d = some t.py
  | .fnd => rfl
  | .cut _ => rfl
  | .tri c d a => by
    unfold T3T.d T3T.py
    simp only [G.toPy, toPys, d.toPy, a.toPy, cellP]
    rfl
theorem T3T.lay : ∀ t : T3T, t.py.canLay0 = true
  | .fnd => by kernel_rfl
  | .cut _ => by
    unfold T3T.py
    simp only [PyData.canLay0, PyData.canLayAll0]
    kernel_rfl
  | .tri c d a => by
    unfold T3T.py
    simp only [PyData.canLay0, PyData.canLayAll0, d.lay, a.lay]
    kernel_rfl
theorem T3T.dep : ∀ t : T3T, t.py.depth ≤ t.h + 2
  | .fnd => by decide
  | .cut _ => by unfold T3T.py; simp [PyData.depth, PyData.depthAll]
  | .tri c d a => by
    have h1 := d.dep
    have h2 := a.dep
    unfold T3T.py T3T.h
    simp only [PyData.depth, PyData.depthAll]
    omega
theorem T3T.rf : ∀ t : T3T, PyData.eqv t.py t.py = true
  | .fnd => by kernel_rfl
  | .cut c => by unfold T3T.py; simp [PyData.eqv, PyData.eqvAll]
  | .tri c d a => by
    unfold T3T.py
    simp [PyData.eqv, PyData.eqvAll, d.rf, a.rf]
theorem eq_tree {t : T3T} (h : t.h ≤ 20) : eqD t.d t.d = some true := by
  unfold eqD
  have s : SeqAt.shaped t.py = true := shaped_of t.lay (Nat.le_trans t.dep (by omega))
  simp only [t.toPy, s, t.rf, and_self, if_true]

theorem plus_D : D.str "+" = tx [43] := by kernel_rfl
theorem cut_D : D.str "!" = tx [33] := by kernel_rfl
theorem ok_cons {s : Nat} {l : List Nat} (h : s < 256) (hl : OkS l) : OkS (s :: l) := fun x hx => by
  rcases List.mem_cons.mp hx with rfl | hx
  · exact h
  · exact hl x hx
theorem ok_one {s : Nat} (h : s < 256) : OkS [s] := ok_cons h fun x hx => by cases hx
theorem marks_D : D.str "!?" = tx [33, 63] := by kernel_rfl
theorem drop1 (s : Nat) (l : List Nat) : cutG (s :: l) (some 1) none = l := by
  have := cutG_from (s :: l) 1
  exact this
theorem head_ix (s : Nat) {l : List Nat} (h : l.length ≤ 1000) : dIx (tx (s :: l)) (.int 0) = some (tx [s]) := by
  rw [tx_ix 0 (by rw [List.length_cons]; omega), atI_0]
  rfl
theorem from_at {pre post : List (List Nat)} {w : List Nat} {r : List (List Nat)} : atI ((pre ++ (w :: r) ++ post).map tx) (pre.length : Int) = some (tx w) := by
  refine atI_nat ?_
  rw [List.getElem?_map, List.append_assoc, List.getElem?_append_right (Nat.le_refl _), Nat.sub_self]
  rfl
theorem cell_free (c : Int × Int) : 32 ∉ cellT c.1 c.2 := fun hx => by
  unfold cellT at hx
  rcases List.mem_append.mp hx with hx | hx
  · exact numZ_free (by decide) hx
  · rcases List.mem_cons.mp hx with z | hx
    · cases z
    · exact numZ_free (by decide) hx
theorem T3T.free : ∀ {t : T3T}, ∀ w ∈ t.ws, 32 ∉ w
  | .fnd, w, hw => by
    unfold T3T.ws at hw
    rw [List.mem_singleton.mp hw]
    decide
  | .cut c, w, hw => by
    unfold T3T.ws at hw
    rw [List.mem_singleton.mp hw]
    intro z
    rcases List.mem_cons.mp z with z | z
    · cases z
    · exact cell_free c z
  | .tri c d a, w, hw => by
    unfold T3T.ws at hw
    rcases List.mem_cons.mp hw with rfl | hw
    · intro z
      rcases List.mem_cons.mp z with z | z
      · cases z
      · exact cell_free c z
    · rcases List.mem_append.mp hw with hw | hw
      · exact T3T.free w hw
      · exact T3T.free w hw

/-! words and trees, with no program in sight -/
inductive WD where
  | fnd | cut (c : Int × Int) | tri (c : Int × Int) | bad
def wd (w : List Nat) : WD := if w = [43] then .fnd else match corn (w.drop 1) with
  | some c => if w.head? = some 33 then .cut c else if w.head? = some 63 then .tri c else .bad
  | none => .bad
/-- the program's way: from the first word on -/
def pf : Nat → Nat → List (List Nat) → Option (T3T × List (List Nat))
  | 0, _, _ => none
  | _ + 1, _, [] => none
  | m + 1, deep, w :: r => match wd w with
    | .fnd => some (.fnd, r)
    | .cut c => some (.cut c, r)
    | .bad => none
    | .tri c => if deep = 9 then none else match pf m (deep + 1) r with
      | none => none
      | some (d, r1) => match pf m (deep + 1) r1 with
        | none => none
        | some (a, r2) => some (.tri c d a, r2)
/-- the law's way: from the last word back -/
def stpP (w : List Nat) (S : List (T3T × Nat)) : Option (List (T3T × Nat)) := match wd w with
  | .fnd => some ((.fnd, 0) :: S)
  | .cut c => some ((.cut c, 0) :: S)
  | .bad => none
  | .tri c => match S with
    | (d, h1) :: (a, h2) :: S' => some ((.tri c d a, 1 + max h1 h2) :: S')
    | _ => none
def st : List (List Nat) → Option (List (T3T × Nat))
  | [] => some []
  | w :: r => (st r).bind (stpP w)
def due (ws : List (List Nat)) : Option T3T := match st ws with
  | some [(t, h)] => if h ≤ 9 then some t else none
  | _ => none
def prog (ws : List (List Nat)) : Option T3T := match pf 14 0 ws with
  | some (t, []) => some t
  | _ => none
theorem pf_st : ∀ (m deep : Nat) (ws : List (List Nat)) (t : T3T) (r : List (List Nat)), deep ≤ 9 → pf m deep ws = some (t, r) → deep + t.h ≤ 9 ∧ r.length < ws.length ∧ ∀ S, st r = some S → st ws = some ((t, t.h) :: S)
  | 0, _, _, _, _, _, h => by cases h
  | m + 1, deep, [], _, _, _, h => by cases h
  | m + 1, deep, w :: r0, t, r, hd, h => by
    unfold pf at h
    cases hw : wd w with
    | fnd =>
      rw [hw] at h
      cases h
      refine ⟨hd, Nat.lt_succ_self _, fun S hS => ?_⟩
      show (st r0).bind (stpP w) = _
      rw [hS, Option.bind_some]
      unfold stpP
      rw [hw]
      rfl
    | cut c =>
      rw [hw] at h
      cases h
      refine ⟨hd, Nat.lt_succ_self _, fun S hS => ?_⟩
      show (st r0).bind (stpP w) = _
      rw [hS, Option.bind_some]
      unfold stpP
      rw [hw]
      rfl
    | bad => rw [hw] at h; cases h
    | tri c =>
      rw [hw] at h
      simp only at h
      by_cases h9 : deep = 9
      · rw [if_pos h9] at h; cases h
      · rw [if_neg h9] at h
        cases h1 : pf m (deep + 1) r0 with
        | none => rw [h1] at h; cases h
        | some x =>
          obtain ⟨d, r1⟩ := x
          rw [h1] at h
          simp only at h
          cases h2 : pf m (deep + 1) r1 with
          | none => rw [h2] at h; cases h
          | some y =>
            obtain ⟨a, r2⟩ := y
            rw [h2] at h
            cases h
            obtain ⟨i1, i2, i3⟩ := pf_st m (deep + 1) r0 d r1 (by omega) h1
            obtain ⟨j1, j2, j3⟩ := pf_st m (deep + 1) r1 a r (by omega) h2
            refine ⟨?_, ?_, fun S hS => ?_⟩
            · unfold T3T.h
              omega
            · rw [List.length_cons]
              omega
            · show (st r0).bind (stpP w) = _
              rw [i3 _ (j3 S hS), Option.bind_some]
              unfold stpP
              rw [hw]
              rfl
theorem st_pf : ∀ (n : Nat) (m deep : Nat) (ws : List (List Nat)) (t : T3T) (h : Nat) (S : List (T3T × Nat)), ws.length ≤ n → 10 ≤ m + deep → deep + h ≤ 9 → st ws = some ((t, h) :: S) → ∃ r, pf m deep ws = some (t, r) ∧ st r = some S ∧ r.length < ws.length
  | _, m, deep, [], t, h, S, _, _, _, hs => by cases hs
  | 0, m, deep, w :: r0, t, h, S, hn, _, _, _ => absurd hn (by rw [List.length_cons]; omega)
  | n + 1, m, deep, w :: r0, t, h, S, hn, hm, hd, hs => by
    rw [List.length_cons] at hn
    obtain ⟨m, rfl⟩ : ∃ m', m = m' + 1 := ⟨m - 1, by omega⟩
    have hs : (st r0).bind (stpP w) = some ((t, h) :: S) := hs
    cases h0 : st r0 with
    | none => rw [h0] at hs; cases hs
    | some S0 =>
      rw [h0, Option.bind_some] at hs
      unfold stpP at hs
      unfold pf
      cases hw : wd w with
      | fnd =>
        rw [hw] at hs
        cases hs
        exact ⟨r0, rfl, h0, Nat.lt_succ_self _⟩
      | cut c =>
        rw [hw] at hs
        cases hs
        exact ⟨r0, rfl, h0, Nat.lt_succ_self _⟩
      | bad => rw [hw] at hs; cases hs
      | tri c =>
        rw [hw] at hs
        simp only at hs ⊢
        match S0, h0, hs with
        | (d, h1) :: (a, h2) :: S', h0, hs =>
          simp only [Option.some.injEq, List.cons.injEq, Prod.mk.injEq] at hs
          obtain ⟨⟨rfl, rfl⟩, rfl⟩ := hs
          obtain ⟨r1, p1, s1, l1⟩ := st_pf n m (deep + 1) r0 d h1 ((a, h2) :: S') (by omega) (by omega) (by omega) h0
          obtain ⟨r2, p2, s2, l2⟩ := st_pf n m (deep + 1) r1 a h2 S' (by omega) (by omega) (by omega) s1
          rw [if_neg (by omega), p1]
          simp only
          rw [p2]
          exact ⟨r2, rfl, s2, by rw [List.length_cons]; omega⟩
theorem st_nil {ws : List (List Nat)} (h : st ws = some []) : ws = [] := by
  cases ws with
  | nil => rfl
  | cons w r =>
    have h : (st r).bind (stpP w) = some [] := h
    cases h0 : st r with
    | none => rw [h0] at h; cases h
    | some S =>
      rw [h0, Option.bind_some] at h
      unfold stpP at h
      cases hw : wd w with
      | fnd => rw [hw] at h; cases h
      | cut c => rw [hw] at h; cases h
      | bad => rw [hw] at h; cases h
      | tri c =>
        rw [hw] at h
        simp only at h
        split at h <;> cases h
/-- both ways tell the same tree -/
theorem prog_due (ws : List (List Nat)) : prog ws = due ws := by
  cases hd : due ws with
  | some t =>
    unfold due at hd
    split at hd
    · rename_i t' h hs
      split at hd
      · rename_i h9
        cases hd
        obtain ⟨r, p, s, _⟩ := st_pf ws.length 14 0 ws t h [] (Nat.le_refl _) (by decide) (by omega) hs
        have := st_nil s
        subst this
        unfold prog
        rw [p]
      · cases hd
    · cases hd
  | none =>
    cases hp : prog ws with
    | none => rfl
    | some t =>
      unfold prog at hp
      split at hp
      · rename_i t' e
        cases hp
        obtain ⟨h1, _, h3⟩ := pf_st 14 0 ws t [] (by decide) e
        have h4 := h3 [] rfl
        unfold due at hd
        rw [h4] at hd
        simp only at hd
        rw [if_pos (by omega)] at hd
        cases hd
      · cases hp
theorem due_h {ws : List (List Nat)} {t : T3T} (h : due ws = some t) : t.h ≤ 9 := by
  rw [← prog_due] at h
  unfold prog at h
  split at h
  · rename_i t' e
    cases h
    have := (pf_st 14 0 ws t [] (by decide) e).1
    omega
  · cases h

theorem dash_D' : D.str "-" = tx [45] := by kernel_rfl
structure OkT where
  l : List Nat
  ok : OkS l
theorem OkT.ext' {a b : OkT} (h : a.l = b.l) : a = b := by cases a; cases b; cases h; rfl
instance : DecidableEq OkT := fun a b => if h : a.l = b.l then .isTrue (OkT.ext' h) else .isFalse fun z => h (by rw [z])
instance : Enc OkT where
  enc := fun a => tx a.l
  py := fun a => .str (mkS a.l)
  dp := 0
  to := fun a => rfl
  lay := fun a => strOk_mkS a.ok
  dep := fun a => by simp [PyData.depth]
  eqv := fun a b => by
    show decide (mkS a.l = mkS b.l) = true ↔ a = b
    rw [decide_eq_true_eq]
    exact ⟨fun h => OkT.ext' (mkS_inj.mp h), fun h => by rw [h]⟩
theorem sg_enc : ∀ fl : List Nat, OkS fl → ∃ os : List OkT, os.map Enc.enc = fl.map (fun c => tx [c]) ∧ (os = [] ↔ fl = [])
  | [], _ => ⟨[], rfl, by simp⟩
  | c :: r, h => by
    obtain ⟨os, e, _⟩ := sg_enc r fun x hx => h x (List.mem_cons_of_mem _ hx)
    exact ⟨⟨[c], fun x hx => by rw [List.mem_singleton.mp hx]; exact h c (List.mem_cons_self ..)⟩ :: os, by rw [List.map_cons, e]; rfl, by simp⟩
theorem eq_sg_nil {fl : List Nat} (h : OkS fl) : eqD (.lst (fl.map fun c => tx [c])) (.lst []) = some (decide (fl = [])) := by
  obtain ⟨os, e, hn⟩ := sg_enc fl h
  have := @eqD_enc (List OkT) _ (by decide) os [] inferInstance
  have : eqD (.lst (os.map Enc.enc)) (.lst []) = some (decide (os = [])) := this
  rw [e] at this
  rw [this]
  congr 1
  rw [decide_eq_decide]
  exact hn
theorem nil_D : D.str "" = tx [] := by kernel_rfl
theorem is_num_is {l : List Nat} (hl : l.length ≤ 90000) (ho : OkS l) : f_law_is_number [tx l] = .ok (.bl (okW l)) [] := by
  have ct := tx_cut (l := l) none (some 1) (by omega)
  have et : cutG l none (some 1) = l.take 1 := cutG_to l 1
  rw [et] at ct
  have cu := tx_cut (l := l) (some 1) none (by omega)
  have ec : cutG l (some 1) none = l.drop 1 := cutG_from l 1
  rw [ec] at cu
  have o45 : OkS [45] := fun c hc => by rw [List.mem_singleton.mp hc]; decide
  have q45 := tx_eq (a := l.take 1) (b := [45]) (ho.sub fun c hc => List.mem_of_mem_take hc) o45
  have hd45 : (decide (l.take 1 = [45])) = decide (l.head? = some 45) := by
    rw [decide_eq_decide]
    cases l with
    | nil => simp
    | cons a r => simp
  rw [hd45] at q45
  have q45 : eqD (tx (l.take 1)) (.str "-") = some (decide (l.head? = some 45)) := by rw [dash_D']; exact q45
  have fl : (figsL l).length ≤ 90000 := by
    unfold figsL
    split
    · rw [List.length_drop]; omega
    · exact hl
  have fo : OkS (figsL l) := by
    unfold figsL
    split
    · exact ho.sub fun c hc => List.mem_of_mem_drop hc
    · exact ho
  have ln := tx_len (l := figsL l) (by omega)
  have it := tx_items (figsL l)
  have zt : ((figsL l).map fun c => tx [c]).length ≤ sizeLine := by rw [List.length_map]; exact szH (by omega)
  have qn := tx_eq (a := figsL l) (b := []) fo (fun c hc => by cases hc)
  have qn : eqD (tx (figsL l)) (.str "") = some (decide (figsL l = [])) := by rw [nil_D]; exact qn
  have run := lcFilt (g := gSet 2) (tt := xTest (xOp2 dNotInSg (xVar 2) (xC (.str "0123456789")))) (te := xVar 2) (vs := [2]) (ρ := [.val (tx l), .val (tx (figsL l)), .emp]) (e1 := fun c => tx [c]) (fun c => tx [c]) (fun c : Nat => !decide (c ∈ [48, 49, 50, 51, 52, 53, 54, 55, 56, 57])) id (l := figsL l) (fun c _ => by
    have h := tx_notIn c [48, 49, 50, 51, 52, 53, 54, 55, 56, 57]
    have h : dNotInSg (tx [c]) (.str "0123456789") = some (.bl (!decide (c ∈ [48, 49, 50, 51, 52, 53, 54, 55, 56, 57]))) := by rw [figs]; exact h
    rw [id_eq]
    generalize (!decide (c ∈ [48, 49, 50, 51, 52, 53, 54, 55, 56, 57])) = B at *
    generalize tx [c] = C at *
    generalize tx l = L at *
    generalize tx (figsL l) = FL at *
    cases B <;> simp! [h])
  rw [List.map_id] at run
  have zb : (((figsL l).filter fun c : Nat => !decide (c ∈ [48, 49, 50, 51, 52, 53, 54, 55, 56, 57])).map fun c => tx [c]).length ≤ sizeLine := by
    rw [List.length_map]
    have := List.length_filter_le (fun c : Nat => !decide (c ∈ [48, 49, 50, 51, 52, 53, 54, 55, 56, 57])) (figsL l)
    exact szH (by omega)
  have qf := eq_sg_nil (fl := (figsL l).filter fun c : Nat => !decide (c ∈ [48, 49, 50, 51, 52, 53, 54, 55, 56, 57])) (fo.sub fun c hc => (List.mem_filter.mp hc).1)
  have hall : decide ((figsL l).filter (fun c : Nat => !decide (c ∈ [48, 49, 50, 51, 52, 53, 54, 55, 56, 57])) = []) = (figsL l).all (fun c => decide (c ∈ [48, 49, 50, 51, 52, 53, 54, 55, 56, 57])) := by
    rw [Bool.eq_iff_iff, decide_eq_true_eq, List.filter_eq_nil_iff, List.all_eq_true]
    constructor
    · intro h c hc
      have := h c hc
      rwa [Bool.not_eq_true', Bool.not_eq_false] at this
    · intro h c hc
      rw [h c hc]
      decide
  rw [hall] at qf
  have q0 := tx_eq (a := l) (b := [48]) ho (fun c hc => by rw [List.mem_singleton.mp hc]; decide)
  have zD : D.str "0" = tx [48] := by kernel_rfl
  have ix : 1 ≤ (figsL l).length → dIx (tx (figsL l)) (.int 0) = some (tx [(figsL l).headD 0]) ∧ eqD (tx [(figsL l).headD 0]) (tx [48]) = some (decide ((figsL l).head? = some 48)) := fun h => by
    cases hf : figsL l with
    | nil => rw [hf] at h; exact absurd h (by decide)
    | cons a r =>
      rw [hf] at fl fo
      refine ⟨by rw [tx_ix 0 (by omega), show atI (a :: r) 0 = some a from atI_nat (xs := a :: r) (j := 0) (v := a) rfl]; rfl, ?_⟩
      have := tx_eq (a := [a]) (b := [48]) (fun c hc => by rw [List.mem_singleton.mp hc]; exact fo a (List.mem_cons_self ..)) (fun c hc => by rw [List.mem_singleton.mp hc]; decide)
      show eqD (tx [a]) (tx [48]) = _
      rw [this]
      congr 1
      rw [decide_eq_decide]
      simp
  have eok : okW l = (decide (1 ≤ (figsL l).length ∧ (figsL l).length ≤ 60) && (figsL l).all (fun c => decide (c ∈ [48, 49, 50, 51, 52, 53, 54, 55, 56, 57])) && !(decide ((figsL l).head? = some 48) && !decide (l = [48]))) := rfl
  have body : ∀ (ρ : Rho), ρ = [.val (tx l), .val (tx (figsL l)), .emp] → endP false ((xSeq (xIfS (xOr (xTest (xOp2 dEq (xVar 1) (xC (.str "")))) (xOr (xTest (xOp2 (dCmp fun i j => decide (j < i)) (xOpL dLen (xCons (xVar 1) xNil)) (xC (.int 60)))) (xTest (xOp2 dNe (xLC (xItSg (xVar 1)) (gSet 2) (xTest (xOp2 dNotInSg (xVar 2) (xC (.str "0123456789")))) (xVar 2) [2]) (xOpL dLst xNil)))))
    (xRet (xC (.bl false)))
    xNext)
    (xRet (xOrV (xOp2 dNe (xOp2 dIx (xVar 1) (xC (.int 0))) (xC (.str "0"))) (xOp2 dEq (xVar 0) (xC (.str "0")))))) ρ) = .ok (.bl (okW l)) [] := by
    intro ρ hρ
    subst hρ
    rw [zD]
    by_cases hnil : figsL l = []
    · rw [eok, decide_eq_false (by rw [hnil]; exact fun z => absurd z.1 (by decide)), Bool.false_and, Bool.false_and]
      rw [decide_eq_true hnil] at qn
      generalize tx l = L at *
      generalize tx (figsL l) = FL at *
      simp! [qn]
    rw [decide_eq_false hnil] at qn
    have l1 : 1 ≤ (figsL l).length := List.length_pos_iff.mpr hnil
    by_cases hlen : (figsL l).length ≤ 60
    rotate_left
    · rw [eok, decide_eq_false (fun z => hlen z.2), Bool.false_and, Bool.false_and]
      have h2 : (60 : Int) < ((figsL l).length : Int) := by omega
      generalize ((figsL l).length : Int) = N at *
      generalize tx l = L at *
      generalize tx (figsL l) = FL at *
      simp! [qn, ln, h2]
    · have h2 : ¬ (60 : Int) < ((figsL l).length : Int) := by omega
      obtain ⟨ix1, ix2⟩ := ix l1
      rw [decide_eq_true ⟨l1, hlen⟩, Bool.true_and] at eok
      generalize okW l = OK at *
      generalize (figsL l).all (fun c => decide (c ∈ [48, 49, 50, 51, 52, 53, 54, 55, 56, 57])) = AB at *
      generalize decide ((figsL l).head? = some 48) = HB at *
      generalize decide (l = [48]) = LB at *
      generalize ((figsL l).length : Int) = N at *
      generalize (((figsL l).filter fun c : Nat => !decide (c ∈ [48, 49, 50, 51, 52, 53, 54, 55, 56, 57])).map fun c => tx [c]) = BL at *
      generalize ((figsL l).map fun c => tx [c]) = TL at *
      generalize tx l = L at *
      generalize tx (figsL l) = FL at *
      generalize tx [(figsL l).headD 0] = HD at *
      generalize tx [48] = ZD at *
      subst eok
      cases AB with
      | false =>
        simp! [qn, ln, h2, it, zt, run, zb, qf]
        rfl
      | true =>
        cases HB with
        | false =>
          simp! [qn, ln, h2, it, zt, run, zb, qf, ix1, ix2]
          cases LB <;> rfl
        | true =>
          cases LB with
          | false =>
            simp! [qn, ln, h2, it, zt, run, zb, qf, ix1, ix2, q0]
            rfl
          | true =>
            simp! [qn, ln, h2, it, zt, run, zb, qf, ix1, ix2, q0]
            rfl
  have b2 := body [.val (tx l), .val (tx (figsL l)), .emp] rfl
  unfold f_law_is_number b_law_is_number
  generalize (xSeq (xIfS (xOr (xTest (xOp2 dEq (xVar 1) (xC (.str "")))) (xOr (xTest (xOp2 (dCmp fun i j => decide (j < i)) (xOpL dLen (xCons (xVar 1) xNil)) (xC (.int 60)))) (xTest (xOp2 dNe (xLC (xItSg (xVar 1)) (gSet 2) (xTest (xOp2 dNotInSg (xVar 2) (xC (.str "0123456789")))) (xVar 2) [2]) (xOpL dLst xNil)))))
    (xRet (xC (.bl false)))
    xNext)
    (xRet (xOrV (xOp2 dNe (xOp2 dIx (xVar 1) (xC (.int 0))) (xC (.str "0"))) (xOp2 dEq (xVar 0) (xC (.str "0")))))) = REST at *
  by_cases hd : l.head? = some 45
  · have ef : figsL l = l.drop 1 := if_pos hd
    rw [ef] at b2
    rw [decide_eq_true hd] at q45
    generalize D.bl (okW l) = RES at *
    generalize tx (l.drop 1) = FL at *
    generalize tx (l.take 1) = TK at *
    generalize tx l = L at *
    simp! [ct, q45, cu]
    exact b2
  · have ef : figsL l = l := if_neg hd
    rw [ef] at b2
    rw [decide_eq_false hd] at q45
    generalize D.bl (okW l) = RES at *
    generalize tx (l.take 1) = TK at *
    generalize tx l = L at *
    simp! [ct, q45]
    exact b2


/-! cells -/
theorem corn_none {p : List Nat} (h : 44 ∉ p) : corn p = none := by
  unfold corn
  rw [sp1_none h]
theorem okW_free {l : List Nat} (h : okW l = true) : 44 ∉ l := fun hx => by
  unfold okW at h
  rw [Bool.and_eq_true, Bool.and_eq_true] at h
  have h3 := h.1.2
  unfold figsL at h3
  split at h3
  · rename_i hd
    cases l with
    | nil => cases hx
    | cons a r =>
      cases hd
      rw [List.drop_one, List.tail_cons] at h3
      rcases List.mem_cons.mp hx with z | z
      · cases z
      · have := List.all_eq_true.mp h3 44 z
        revert this
        decide
  · have := List.all_eq_true.mp h3 44 hx
    revert this
    decide
theorem split44 : ∀ {b : List Nat}, 44 ∈ b → ∃ p r, b = p ++ 44 :: r ∧ 44 ∉ p
  | c :: b, h => by
    by_cases e : c = 44
    · subst e
      exact ⟨[], b, rfl, List.not_mem_nil⟩
    · obtain ⟨p, r, e2, hp⟩ := split44 ((List.mem_cons.mp h).resolve_left fun z => e z.symm)
      exact ⟨c :: p, r, by rw [e2]; rfl, fun z => (List.mem_cons.mp z).elim (fun q => e q.symm) hp⟩
theorem corn_at {a b : List Nat} (h : 44 ∉ a) : corn (a ++ 44 :: b) = if okW a = true ∧ okW b = true then some (valW a, valW b) else none := by
  unfold corn
  rw [sp1_app b h]
  by_cases hb : 44 ∈ b
  · rw [if_neg fun z => okW_free z.2 hb]
    obtain ⟨p, r, e, hp⟩ : ∃ p r, b = p ++ 44 :: r ∧ 44 ∉ p := split44 hb
    rw [e, sp1_app r hp]
    have : sp1 44 r ≠ [] := fun z => by
      have h1 := sp1_len 44 _ r (Nat.le_refl _)
      rw [z] at h1
      simp at h1
    cases hr : sp1 44 r with
    | nil => exact absurd hr this
    | cons x y => rfl
  · rw [sp1_none hb]
theorem is_cell_is {p : List Nat} (hl : p.length ≤ 80000) (ho : OkS p) : f_law_is_cell [tx p] = .ok (.bl (corn p).isSome) [] := by
  have pt := tx_part1 (s := 44) (l := p) (by omega)
  have pt : dPart (tx p) (.str ",") = some (.tup (pa1 44 p)) := by rw [comma_is]; exact pt
  have z44 : D.str "," = tx [44] := by rw [comma_is]
  by_cases h : 44 ∈ p
  · obtain ⟨a, b, rfl, ha⟩ := split44 h
    rw [pa1_app b ha] at pt
    rw [corn_at ha]
    rw [List.length_append, List.length_cons] at hl
    have oa : OkS a := ho.sub fun c hc => List.mem_append_left _ hc
    have ob : OkS b := ho.sub fun c hc => List.mem_append_right _ (List.mem_cons_of_mem _ hc)
    have e1 := is_num_is (l := a) (by omega) oa
    have e2 := is_num_is (l := b) (by omega) ob
    have q := tx_eq (a := [44]) (b := [44]) (ok_one (by decide)) (ok_one (by decide))
    rw [decide_eq_true rfl, ← z44] at q
    rw [← z44] at pt
    have hR : (if okW a = true ∧ okW b = true then some (valW a, valW b) else none).isSome = (okW a && okW b) := by
      by_cases z : okW a = true ∧ okW b = true
      · rw [if_pos z, z.1, z.2]; rfl
      · rw [if_neg z]
        cases ha' : okW a <;> cases hb' : okW b <;> first | rfl | exact absurd ⟨ha', hb'⟩ z
    rw [hR]
    generalize okW a = A at *
    generalize okW b = B at *
    generalize tx a = TA at *
    generalize tx b = TB at *
    have st : isStr (tx (a ++ 44 :: b)) = true := rfl
    generalize tx (a ++ 44 :: b) = TP at *
    unfold f_law_is_cell b_law_is_cell
    cases A <;> cases B <;> simp! [st, pt, q, e1, e2] <;> rfl
  · rw [pa1_none h] at pt
    rw [corn_none h]
    have q := tx_eq (a := []) (b := [44]) (fun c hc => by cases hc) (ok_one (by decide))
    rw [decide_eq_false (by decide), ← z44] at q
    have st : isStr (tx p) = true := rfl
    generalize tx p = TP at *
    generalize tx [] = TN at *
    unfold f_law_is_cell b_law_is_cell
    simp! [st, pt, q]
    rfl
theorem cell_is {p : List Nat} (hl : p.length ≤ 80000) {c : Int × Int} (h : corn p = some c) : f_law_cell [tx p] = .ok (cellP c) [] := by
  have pt := tx_part1 (s := 44) (l := p) (by omega)
  have pt : dPart (tx p) (.str ",") = some (.tup (pa1 44 p)) := by rw [comma_is]; exact pt
  by_cases h4 : 44 ∈ p
  · obtain ⟨a, b, rfl, ha⟩ := split44 h4
    rw [pa1_app b ha] at pt
    rw [corn_at ha] at h
    by_cases z : okW a = true ∧ okW b = true
    · rw [if_pos z] at h
      cases h
      have i1 := int_okW z.1
      have i2 := int_okW z.2
      generalize tx a = TA at *
      generalize tx b = TB at *
      generalize tx [44] = T4 at *
      have st : isStr (tx (a ++ 44 :: b)) = true := rfl
      generalize tx (a ++ 44 :: b) = TP at *
      unfold f_law_cell b_law_cell
      simp! [st, pt, i1, i2, cellP, sz_2]
    · rw [if_neg z] at h
      cases h
  · rw [corn_none h4] at h
    cases h

/-! the law's stack -/
def sE (x : T3T × Nat) : D := .tup [x.1.d, .int (x.2 : Int)]
def stD (S : List (T3T × Nat)) : List D := S.reverse.map sE
theorem stD_cons (x : T3T × Nat) (S : List (T3T × Nat)) : stD (x :: S) = stD S ++ [sE x] := by
  unfold stD
  rw [List.reverse_cons, List.map_append]
  rfl
theorem stD_len (S : List (T3T × Nat)) : (stD S).length = S.length := by
  unfold stD
  rw [List.length_map, List.length_reverse]
theorem stD_last (x : T3T × Nat) (S : List (T3T × Nat)) : (stD (x :: S)).getLast? = some (sE x) := by
  rw [stD_cons, List.getLast?_append]
  rfl
theorem stD_drop (x : T3T × Nat) (S : List (T3T × Nat)) : (stD (x :: S)).dropLast = stD S := by
  rw [stD_cons, List.dropLast_concat]
theorem ask_D : D.str "?" = tx [63] := by kernel_rfl
theorem mark_in (a : List Nat) (ha : OkS a) : inD (tx a) (.lst [tx [33], tx [63]]) = some (decide (a = [33]) || decide (a = [63])) := by
  obtain ⟨x, hx⟩ : ∃ x : OkT, x = ⟨[33], ok_one (by decide)⟩ := ⟨_, rfl⟩
  obtain ⟨y, hy⟩ : ∃ y : OkT, y = ⟨[63], ok_one (by decide)⟩ := ⟨_, rfl⟩
  have h := inD_enc (α := OkT) (by decide) ⟨a, ha⟩ [x, y]
  have e1 : (⟨a, ha⟩ : OkT) = x ↔ a = [33] := by
    rw [hx]
    exact ⟨fun e => congrArg OkT.l e, fun e => OkT.ext' e⟩
  have e2 : (⟨a, ha⟩ : OkT) = y ↔ a = [63] := by
    rw [hy]
    exact ⟨fun e => congrArg OkT.l e, fun e => OkT.ext' e⟩
  have hb : decide ((⟨a, ha⟩ : OkT) ∈ [x, y]) = (decide (a = [33]) || decide (a = [63])) := by
    rw [Bool.eq_iff_iff, decide_eq_true_eq, Bool.or_eq_true, decide_eq_true_eq, decide_eq_true_eq, List.mem_cons, List.mem_singleton, e1, e2]
  rw [hb] at h
  have x1 : Enc.enc x = tx [33] := by rw [hx]; rfl
  have y1 : Enc.enc y = tx [63] := by rw [hy]; rfl
  rw [List.map_cons, List.map_cons, List.map_nil, x1, y1] at h
  exact h
theorem mul_st {r : List (List Nat)} (h : st r = none) : ∀ p : List (List Nat), st (p ++ r) = none
  | [] => h
  | w :: p => by
    show (st (p ++ r)).bind (stpP w) = none
    rw [mul_st h p]
    rfl
theorem due_step {u : List Nat} (hu : u.length ≤ 9000) (ho : OkS u) (S : List (T3T × Nat)) (hS : S.length ≤ 10000) (A0 s3 s4 : Slot) :
    (∀ S1, stpP u S = some S1 → ∃ t3 t4 : Slot, b_law_due_1 [A0, .own (.lst (stD S)), .val (tx u), s3, s4] = .nx [A0, .own (.lst (stD S1)), .val (tx u), t3, t4]) ∧ (stpP u S = none → ∃ ρ', b_law_due_1 [A0, .own (.lst (stD S)), .val (tx u), s3, s4] = .ret .non ρ') := by
  have qp := tx_eq (a := u) (b := [43]) ho (ok_one (by decide))
  rw [← plus_D] at qp
  have hz : (stD S).length < sizeLine := by rw [stD_len]; exact szBl (by omega)
  have ct := tx_cut (l := u) none (some 1) (by omega)
  rw [show cutG u none (some 1) = u.take 1 from cutG_to u 1] at ct
  have cu := tx_cut (l := u) (some 1) none (by omega)
  rw [show cutG u (some 1) none = u.drop 1 from cutG_from u 1] at cu
  have mi := mark_in (u.take 1) (ho.sub fun c hc => List.mem_of_mem_take hc)
  have ic := is_cell_is (p := u.drop 1) (by rw [List.length_drop]; omega) (ho.sub fun c hc => List.mem_of_mem_drop hc)
  have l2 : ∀ a b : D, dLst [a, b] = some (.lst [a, b]) := fun _ _ => by kernel_rfl
  rw [← cut_D, ← ask_D] at mi
  unfold stpP wd
  by_cases h0 : u = [43]
  · rw [if_pos h0]
    rw [decide_eq_true h0] at qp
    refine ⟨fun S1 h1 => ?_, fun h1 => by cases h1⟩
    cases h1
    rw [stD_cons]
    show ∃ t3 t4 : Slot, _ = Fl.nx [A0, .own (.lst (stD S ++ [D.tup [.tup [.str "found"], .int 0]])), .val (tx u), t3, t4]
    generalize tx u = U at *
    generalize stD S = XS1 at *
    unfold b_law_due_1
    simp! [qp, hz, sz_1, sz_2]
    exact ⟨_, _, rfl⟩
  · rw [if_neg h0]
    rw [decide_eq_false h0] at qp
    cases hc : corn (u.drop 1) with
    | none =>
      rw [hc] at ic
      refine ⟨fun S1 h1 => (by cases h1), fun _ => ?_⟩
      have ic : f_law_is_cell [tx (u.drop 1)] = .ok (.bl false) [] := ic
      generalize tx (u.drop 1) = UD at *
      generalize tx (u.take 1) = UT at *
      generalize tx u = U at *
      generalize stD S = XS1 at *
      generalize (decide (u.take 1 = [33]) || decide (u.take 1 = [63])) = MB at *
      unfold b_law_due_1
      cases MB <;> simp! [qp, ct, l2, mi, cu, ic] <;> exact ⟨_, rfl⟩
    | some c =>
      rw [hc] at ic
      have ic : f_law_is_cell [tx (u.drop 1)] = .ok (.bl true) [] := ic
      have ce := cell_is (p := u.drop 1) (by rw [List.length_drop]; omega) hc
      obtain ⟨a, r, rfl⟩ : ∃ a r, u = a :: r := by
        cases u with
        | nil => rw [show ([] : List Nat).drop 1 = [] from rfl, corn_none List.not_mem_nil] at hc; cases hc
        | cons a r => exact ⟨a, r, rfl⟩
      have ix : dIx (tx (a :: r)) (.int 0) = some (tx [a]) := by rw [tx_ix 0 (by omega), show atI (a :: r) 0 = some a from atI_nat (xs := a :: r) (j := 0) (v := a) rfl]; rfl
      have oa : OkS [a] := ok_one (ho a (List.mem_cons_self ..))
      have q33 := tx_eq (a := [a]) (b := [33]) oa (ok_one (by decide))
      rw [← cut_D] at q33
      have ht : (a :: r).take 1 = [a] := rfl
      have hh : (a :: r).head? = some a := rfl
      rw [ht] at mi ct
      simp only [hh, Option.some.injEq]
      by_cases h33 : a = 33
      · subst h33
        rw [if_pos rfl]
        rw [decide_eq_true rfl] at q33
        rw [decide_eq_true rfl, Bool.true_or] at mi
        refine ⟨fun S1 h1 => ?_, fun h1 => by cases h1⟩
        cases h1
        rw [stD_cons]
        show ∃ t3 t4 : Slot, _ = Fl.nx [A0, .own (.lst (stD S ++ [D.tup [.tup [.str "cut", cellP c], .int 0]])), .val (tx (33 :: r)), t3, t4]
        generalize cellP c = CP at *
        generalize tx ((33 :: r).drop 1) = UD at *
        generalize tx [33] = UT at *
        generalize tx (33 :: r) = U at *
        generalize stD S = XS1 at *
        unfold b_law_due_1
        simp! [qp, ct, l2, mi, cu, ic, ix, q33, ce, hz, sz_2]
        exact ⟨_, _, rfl⟩
      · rw [if_neg h33]
        rw [decide_eq_false (fun z => h33 (List.cons.inj z).1)] at q33
        by_cases h63 : a = 63
        · subst h63
          rw [if_pos rfl]
          have mi : inD (tx [63]) (.lst [.str "!", .str "?"]) = some true := mi
          match S, hS, hz with
          | [], hS, hz =>
            refine ⟨fun S1 h1 => (by cases h1), fun _ => ?_⟩
            have e0 : stD [] = [] := rfl
            rw [e0]
            generalize tx ((63 :: r).drop 1) = UD at *
            generalize tx [63] = UT at *
            generalize tx (63 :: r) = U at *
            unfold b_law_due_1
            simp! [qp, ct, l2, mi, cu, ic, ix, q33]
            exact ⟨_, rfl⟩
          | [x], hS, hz =>
            refine ⟨fun S1 h1 => (by cases h1), fun _ => ?_⟩
            have e0 : stD [x] = [sE x] := rfl
            rw [e0]
            generalize sE x = X0 at *
            generalize tx ((63 :: r).drop 1) = UD at *
            generalize tx [63] = UT at *
            generalize tx (63 :: r) = U at *
            unfold b_law_due_1
            simp! [qp, ct, l2, mi, cu, ic, ix, q33]
            exact ⟨_, rfl⟩
          | (d, h1) :: (b, h2) :: S', hS, hz =>
            refine ⟨fun S1 hs => ?_, fun h1 => by cases h1⟩
            cases hs
            have g1 := stD_last (d, h1) ((b, h2) :: S')
            have g2 := stD_drop (d, h1) ((b, h2) :: S')
            have g3 := stD_last (b, h2) S'
            have g4 := stD_drop (b, h2) S'
            have s1 : sE (d, h1) = .tup [d.d, .int (h1 : Int)] := rfl
            have s2 : sE (b, h2) = .tup [b.d, .int (h2 : Int)] := rfl
            rw [s1] at g1
            rw [s2] at g3
            have hl : ¬ (((stD ((d, h1) :: (b, h2) :: S')).length : Nat) : Int) < 2 := by
              rw [stD_len, List.length_cons, List.length_cons]
              omega
            have hz4 : (stD S').length < sizeLine := by
              rw [List.length_cons, List.length_cons] at hS
              rw [stD_len]
              exact szBl (by omega)
            have mh : ((1 + max h1 h2 : Nat) : Int) = 1 + mx (h1 : Int) (h2 : Int) := by
              unfold mx
              split <;> omega
            rw [stD_cons (T3T.tri c d b, _)]
            have s3 : sE (T3T.tri c d b, 1 + max h1 h2) = .tup [.tup [.str "try", cellP c, d.d, b.d], .int (1 + mx (h1 : Int) (h2 : Int))] := by
              show D.tup [_, .int ((1 + max h1 h2 : Nat) : Int)] = _
              rw [mh]
              rfl
            rw [s3]
            clear mh s1 s2 s3 hS
            generalize (h1 : Int) = H1 at *
            generalize (h2 : Int) = H2 at *
            generalize d.d = DD at *
            generalize b.d = DB at *
            generalize cellP c = CP at *
            generalize tx ((63 :: r).drop 1) = UD at *
            generalize tx [63] = UT at *
            generalize tx (63 :: r) = U at *
            generalize stD ((d, h1) :: (b, h2) :: S') = X0 at *
            generalize stD ((b, h2) :: S') = X1 at *
            generalize stD S' = X2 at *
            unfold b_law_due_1
            simp! [qp, ct, l2, mi, cu, ic, ix, q33, hl, g1, g2, g3, g4, ce, hz4, sz_2, sz_4]
            exact ⟨_, _, rfl⟩
        · rw [if_neg h63]
          rw [decide_eq_false (fun z => h33 (List.cons.inj z).1), decide_eq_false (fun z => h63 (List.cons.inj z).1)] at mi
          refine ⟨fun S1 h1 => (by cases h1), fun _ => ?_⟩
          have mi : inD (tx [a]) (.lst [.str "!", .str "?"]) = some false := mi
          generalize tx ((a :: r).drop 1) = UD at *
          generalize tx [a] = UT at *
          generalize tx (a :: r) = U at *
          generalize stD S = XS1 at *
          unfold b_law_due_1
          simp! [qp, ct, l2, mi]
          exact ⟨_, rfl⟩

theorem due_run {L : Nat} (hL : L ≤ 9999) (A0 : Slot) : ∀ (us r : List (List Nat)) (S : List (T3T × Nat)) (s2 s3 s4 : Slot), (∀ u ∈ us, u.length ≤ 9000 ∧ OkS u) → us.length + S.length ≤ L → st r = some S →
    (∀ S1, st (us.reverse ++ r) = some S1 → ∃ t2 t3 t4 : Slot, forRun (gSet 2) b_law_due_1 (us.map tx) [A0, .own (.lst (stD S)), s2, s3, s4] = .nx [A0, .own (.lst (stD S1)), t2, t3, t4]) ∧ (st (us.reverse ++ r) = none → ∃ ρ', forRun (gSet 2) b_law_due_1 (us.map tx) [A0, .own (.lst (stD S)), s2, s3, s4] = .ret .non ρ')
  | [], r, S, s2, s3, s4, _, _, hS => by
    rw [List.reverse_nil, List.nil_append]
    refine ⟨fun S1 h1 => ?_, fun h1 => ?_⟩
    · rw [hS] at h1
      cases h1
      exact ⟨s2, s3, s4, rfl⟩
    · rw [hS] at h1
      cases h1
  | u :: us, r, S, s2, s3, s4, hu, hl, hS => by
    obtain ⟨h1, h2⟩ := hu u List.mem_cons_self
    rw [List.length_cons] at hl
    obtain ⟨q1, q2⟩ := due_step h1 h2 S (by omega) A0 s3 s4
    have er : (u :: us).reverse ++ r = us.reverse ++ (u :: r) := by rw [List.reverse_cons, List.append_assoc]; rfl
    have es : st (u :: r) = stpP u S := by
      show (st r).bind (stpP u) = _
      rw [hS]
      rfl
    rw [er, List.map_cons]
    cases hc : stpP u S with
    | none =>
      obtain ⟨ρ', e⟩ := q2 hc
      rw [hc] at es
      have hn := mul_st es us.reverse
      refine ⟨fun S1 z => (by rw [hn] at z; cases z), fun _ => ⟨ρ', ?_⟩⟩
      unfold forRun
      show (match b_law_due_1 [A0, .own (.lst (stD S)), .val (tx u), s3, s4] with
        | .nx ρ2 => forRun (gSet 2) b_law_due_1 (us.map tx) ρ2
        | .cnt ρ2 => forRun (gSet 2) b_law_due_1 (us.map tx) ρ2
        | .brk ρ2 => .nx ρ2
        | f => f) = _
      rw [e]
    | some S1 =>
      obtain ⟨t3, t4, e⟩ := q1 S1 hc
      rw [hc] at es
      have ls : S1.length ≤ S.length + 1 := by
        unfold stpP at hc
        cases hw : wd u with
        | fnd => rw [hw] at hc; cases hc; exact Nat.le_refl _
        | cut c => rw [hw] at hc; cases hc; exact Nat.le_refl _
        | bad => rw [hw] at hc; cases hc
        | tri c =>
          rw [hw] at hc
          simp only at hc
          split at hc
          · cases hc
            simp only [List.length_cons]
            omega
          · cases hc
      have ih := due_run hL A0 us (u :: r) S1 (.val (tx u)) t3 t4 (fun v hv => hu v (List.mem_cons_of_mem _ hv)) (by omega) es
      have step : ∀ X, forRun (gSet 2) b_law_due_1 (us.map tx) [A0, .own (.lst (stD S1)), .val (tx u), t3, t4] = X → forRun (gSet 2) b_law_due_1 (tx u :: us.map tx) [A0, .own (.lst (stD S)), s2, s3, s4] = X := fun X hX => by
        unfold forRun
        show (match b_law_due_1 [A0, .own (.lst (stD S)), .val (tx u), s3, s4] with
          | .nx ρ2 => forRun (gSet 2) b_law_due_1 (us.map tx) ρ2
          | .cnt ρ2 => forRun (gSet 2) b_law_due_1 (us.map tx) ρ2
          | .brk ρ2 => .nx ρ2
          | f => f) = _
        rw [e]
        exact hX
      refine ⟨fun S2 z => ?_, fun z => ?_⟩
      · obtain ⟨a, b, c, q⟩ := ih.1 S2 z
        exact ⟨a, b, c, step _ q⟩
      · obtain ⟨ρ', q⟩ := ih.2 z
        exact ⟨ρ', step _ q⟩
def dueD : Option T3T → D
  | some t => t.d
  | none => .non
theorem sp_ok {l : List Nat} (hl : l.length ≤ 9000) (ho : OkS l) : ∀ u ∈ sp1 32 l, u.length ≤ 9000 ∧ OkS u := fun u hu => ⟨Nat.le_trans (len_of_sp hu) hl, ho.sub (sub_of_sp hu)⟩
theorem blank_D : D.str " " = tx [32] := by kernel_rfl
theorem due_is {l : List Nat} (hl : l.length ≤ 9000) (ho : OkS l) : f_law_due [tx l] = .ok (dueD (due (sp1 32 l))) [] := by
  have sp := tx_split1 (s := 32) (l := l) (by decide) (by omega)
  rw [← blank_D] at sp
  have ln : (sp1 32 l).length ≤ 9001 := by rw [sp1_len 32 _ l (Nat.le_refl _)]; have := List.count_le_length (a := 32) (l := l); omega
  obtain ⟨q1, q2⟩ := due_run (L := 9999) (Nat.le_refl _) (.val (tx l)) (sp1 32 l).reverse [] [] .emp .emp .emp (fun u hu => sp_ok hl ho u (List.mem_reverse.mp hu)) (by rw [List.length_reverse]; simp only [List.length_nil]; omega) rfl
  rw [List.reverse_reverse, List.append_nil] at q1 q2
  have hst : isStr (tx l) = true := rfl
  have z1 : ((sp1 32 l).map tx).length ≤ sizeLine := by rw [List.length_map, sizeLine_eq]; omega
  have rv : dRev (.lst ((sp1 32 l).map tx)) = some (.lst (((sp1 32 l).reverse).map tx)) := by
    rw [List.map_reverse]
    rfl
  have z2 : (((sp1 32 l).reverse).map tx).length ≤ sizeLine := by rw [List.length_map, List.length_reverse, sizeLine_eq]; omega
  have e0 : stD [] = [] := rfl
  rw [e0] at q1 q2
  unfold due
  cases hs : st (sp1 32 l) with
  | none =>
    obtain ⟨ρ', e⟩ := q2 hs
    show _ = FR.ok .non []
    generalize (sp1 32 l).map tx = W1 at *
    generalize ((sp1 32 l).reverse).map tx = W2 at *
    generalize tx l = TL1 at *
    unfold f_law_due b_law_due
    simp! [hst, sp, z1, rv, z2, e, sz_0]
  | some S =>
    obtain ⟨t2, t3, t4, e⟩ := q1 S hs
    match S, hs with
    | [], hs =>
      show _ = FR.ok .non []
      rw [e0] at e
      generalize (sp1 32 l).map tx = W1 at *
      generalize ((sp1 32 l).reverse).map tx = W2 at *
      generalize tx l = TL1 at *
      unfold f_law_due b_law_due
      simp! [hst, sp, z1, rv, z2, e, sz_0]
    | [(t, h)], hs =>
      have e1 : stD [(t, h)] = [.tup [t.d, .int (h : Int)]] := rfl
      rw [e1] at e
      show _ = FR.ok (dueD (if h ≤ 9 then some t else none)) []
      by_cases h9 : h ≤ 9
      · have n9 : ¬ (9 : Int) < (h : Int) := by omega
        rw [if_pos h9]
        show _ = FR.ok t.d []
        generalize t.d = TD at *
        generalize (h : Int) = HI at *
        generalize (sp1 32 l).map tx = W1 at *
        generalize ((sp1 32 l).reverse).map tx = W2 at *
        generalize tx l = TL1 at *
        unfold f_law_due b_law_due
        simp! [hst, sp, z1, rv, z2, e, n9, sz_0]
      · have n9 : (9 : Int) < (h : Int) := by omega
        rw [if_neg h9]
        show _ = FR.ok .non []
        generalize t.d = TD at *
        generalize (h : Int) = HI at *
        generalize (sp1 32 l).map tx = W1 at *
        generalize ((sp1 32 l).reverse).map tx = W2 at *
        generalize tx l = TL1 at *
        unfold f_law_due b_law_due
        simp! [hst, sp, z1, rv, z2, e, n9, sz_0]
    | x :: y :: S', hs =>
      have n1 : ¬ (((stD (x :: y :: S')).length : Nat) : Int) = 1 := by
        rw [stD_len, List.length_cons, List.length_cons]
        omega
      show _ = FR.ok .non []
      generalize stD (x :: y :: S') = XS1 at *
      generalize (sp1 32 l).map tx = W1 at *
      generalize ((sp1 32 l).reverse).map tx = W2 at *
      generalize tx l = TL1 at *
      unfold f_law_due b_law_due
      simp! [hst, sp, z1, rv, z2, e, n1, sz_0]

/-! the program's way -/
theorem pf_suf : ∀ (m deep : Nat) (ws : List (List Nat)) (t : T3T) (r : List (List Nat)), pf m deep ws = some (t, r) → ∃ p, ws = p ++ r
  | 0, _, _, _, _, h => by cases h
  | m + 1, deep, [], _, _, h => by cases h
  | m + 1, deep, w :: r0, t, r, h => by
    unfold pf at h
    cases hw : wd w with
    | fnd => rw [hw] at h; cases h; exact ⟨[w], rfl⟩
    | cut c => rw [hw] at h; cases h; exact ⟨[w], rfl⟩
    | bad => rw [hw] at h; cases h
    | tri c =>
      rw [hw] at h
      simp only at h
      by_cases h9 : deep = 9
      · rw [if_pos h9] at h; cases h
      · rw [if_neg h9] at h
        cases h1 : pf m (deep + 1) r0 with
        | none => rw [h1] at h; cases h
        | some x =>
          obtain ⟨d, r1⟩ := x
          rw [h1] at h
          simp only at h
          cases h2 : pf m (deep + 1) r1 with
          | none => rw [h2] at h; cases h
          | some y =>
            obtain ⟨a, r2⟩ := y
            rw [h2] at h
            cases h
            obtain ⟨p1, e1⟩ := pf_suf m (deep + 1) r0 d r1 h1
            obtain ⟨p2, e2⟩ := pf_suf m (deep + 1) r1 a r h2
            exact ⟨w :: (p1 ++ p2), by rw [e1, e2]; simp⟩
theorem from_gen : ∀ (m : Nat) (WS pre rest : List (List Nat)) (deep : Nat) (A E : Int), WS = pre ++ rest → WS.length ≤ 9999 → (∀ u ∈ WS, u.length ≤ 9000 ∧ OkS u) → deep ≤ 9 → 10 ≤ m + deep → A = (pre.length : Int) → E = (deep : Int) →
    r_tree_from m [.lst (WS.map tx), .int A, .int E] = match pf m deep rest with
      | some (t, r) => .ok (.tup [t.d, .int (((WS.length - r.length : Nat)) : Int)]) []
      | none => .exc "NoText" []
  | 0, _, _, _, _, _, _, _, _, _, _, _, _, _ => by omega
  | m + 1, WS, pre, [], deep, A, E, hW, hl, ho, hd, hm, hA, hE => by
    have lw : (((WS.map tx).length : Nat) : Int) ≤ A := by
      rw [List.length_map, hW, List.append_nil]
      omega
    unfold pf
    generalize WS.map tx = WW at *
    unfold r_tree_from b_tree_from
    simp! [lw]
  | m + 1, WS, pre, w :: rest, deep, A, E, hW, hl, ho, hd, hm, hA, hE => by
    have lw : ¬ (((WS.map tx).length : Nat) : Int) ≤ A := by
      rw [List.length_map, hW, List.length_append, List.length_cons]
      omega
    have hi : atI (WS.map tx) A = some (tx w) := by
      rw [hA]
      exact atI_nat (by rw [List.getElem?_map, hW, List.getElem?_append_right (Nat.le_refl _), Nat.sub_self]; rfl)
    obtain ⟨hwl, hwo⟩ := ho w (by rw [hW]; exact List.mem_append_right _ List.mem_cons_self)
    have q := tx_eq (a := w) (b := [43]) hwo (ok_one (by decide))
    have lx : ((WS.length - rest.length : Nat) : Int) = A + 1 := by
      rw [hW, List.length_append, List.length_cons, hA]
      omega
    have cu := tx_cut (l := w) (some 1) none (by omega)
    rw [show cutG w (some 1) none = w.drop 1 from cutG_from w 1] at cu
    have ci := cell_in_gen (p := w.drop 1) (by rw [List.length_drop]; omega) (hwo.sub fun c hc => List.mem_of_mem_drop hc)
    unfold pf wd
    by_cases h0 : w = [43]
    · rw [if_pos h0]
      rw [decide_eq_true h0] at q
      show _ = FR.ok (.tup [.tup [.str "found"], .int ((WS.length - rest.length : Nat) : Int)]) []
      rw [lx]
      clear lx hW hA
      generalize WS.map tx = WW at *
      generalize tx w = U at *
      unfold r_tree_from b_tree_from
      simp! [plus_D, lw, hi, q]
    · rw [if_neg h0]
      rw [decide_eq_false h0] at q
      cases hc : corn (w.drop 1) with
      | none =>
        rw [hc] at ci
        show _ = FR.exc "NoText" []
        have ci : f_cell_in [tx (w.drop 1)] = .ok .non [] := ci
        clear lx hW hA
        generalize WS.map tx = WW at *
        generalize tx (w.drop 1) = UD at *
        generalize tx w = U at *
        unfold r_tree_from b_tree_from
        simp! [plus_D, lw, hi, q, cu, ci]
      | some c =>
        rw [hc] at ci
        have ci : f_cell_in [tx (w.drop 1)] = .ok (.tup [.int c.1, .int c.2]) [] := ci
        obtain ⟨a, r, rfl⟩ : ∃ a r, w = a :: r := by
          cases w with
          | nil => rw [show ([] : List Nat).drop 1 = [] from rfl, corn_none List.not_mem_nil] at hc; cases hc
          | cons a r => exact ⟨a, r, rfl⟩
        have ix : dIx (tx (a :: r)) (.int 0) = some (tx [a]) := by rw [tx_ix 0 (by omega), show atI (a :: r) 0 = some a from atI_nat (xs := a :: r) (j := 0) (v := a) rfl]; rfl
        have oa : OkS [a] := ok_one (hwo a (List.mem_cons_self ..))
        have q33 := tx_eq (a := [a]) (b := [33]) oa (ok_one (by decide))
        have k4 := tx_notIn a [33, 63]
        have hh : (a :: r).head? = some a := rfl
        simp only [hh, Option.some.injEq]
        by_cases h33 : a = 33
        · subst h33
          rw [if_pos rfl]
          rw [decide_eq_true rfl] at q33
          rw [decide_eq_true (by decide)] at k4
          show _ = FR.ok (.tup [.tup [.str "cut", cellP c], .int ((WS.length - rest.length : Nat) : Int)]) []
          rw [lx]
          clear lx hW hA
          generalize WS.map tx = WW at *
          generalize tx ((33 :: r).drop 1) = UD at *
          generalize tx (33 :: r) = U at *
          unfold r_tree_from b_tree_from
          simp! [plus_D, cut_D, marks_D, lw, hi, q, cu, ci, ix, k4, q33, cellP]
        · rw [if_neg h33]
          rw [decide_eq_false (fun z => h33 (List.cons.inj z).1)] at q33
          by_cases h63 : a = 63
          · subst h63
            rw [if_pos rfl]
            rw [decide_eq_true (by decide)] at k4
            simp only
            by_cases h9 : deep = 9
            · rw [if_pos h9]
              have e9 : E = 9 := by omega
              show _ = FR.exc "NoText" []
              clear lx hW hA
              subst e9
              generalize WS.map tx = WW at *
              generalize tx ((63 :: r).drop 1) = UD at *
              generalize tx [63] = UT at *
              generalize tx (63 :: r) = U at *
              unfold r_tree_from b_tree_from
              simp! [plus_D, cut_D, marks_D, lw, hi, q, cu, ci, ix, k4, q33]
            · rw [if_neg h9]
              have n9 : ¬ E = 9 := by omega
              have r1 := from_gen m WS (pre ++ [63 :: r]) rest (deep + 1) (A + 1) (E + 1) (by rw [hW, List.append_assoc]; rfl) hl ho (by omega) (by omega) (by rw [List.length_append, List.length_singleton]; omega) (by omega)
              cases p1 : pf m (deep + 1) rest with
              | none =>
                rw [p1] at r1
                have r1 : r_tree_from m [.lst (WS.map tx), .int (A + 1), .int (E + 1)] = .exc "NoText" [] := r1
                show _ = FR.exc "NoText" []
                clear lx hW hA
                generalize WS.map tx = WW at *
                generalize tx ((63 :: r).drop 1) = UD at *
                generalize tx [63] = UT at *
                generalize tx (63 :: r) = U at *
                unfold r_tree_from b_tree_from
                simp! [plus_D, cut_D, marks_D, lw, hi, q, cu, ci, ix, k4, q33, n9, r1]
              | some x =>
                obtain ⟨d, rest1⟩ := x
                rw [p1] at r1
                have r1 : r_tree_from m [.lst (WS.map tx), .int (A + 1), .int (E + 1)] = .ok (.tup [d.d, .int ((WS.length - rest1.length : Nat) : Int)]) [] := r1
                simp only
                obtain ⟨pr, hpr⟩ := pf_suf m (deep + 1) rest d rest1 p1
                have r2 := from_gen m WS (pre ++ [63 :: r] ++ pr) rest1 (deep + 1) ((WS.length - rest1.length : Nat) : Int) (E + 1) (by rw [hW, hpr]; simp) hl ho (by omega) (by omega) (by
                  rw [hW, hpr]
                  simp only [List.length_append, List.length_cons, List.length_nil]
                  omega) (by omega)
                obtain ⟨B, hB⟩ : ∃ B : Int, ((WS.length - rest1.length : Nat) : Int) = B := ⟨_, rfl⟩
                rw [hB] at r1 r2
                cases p2 : pf m (deep + 1) rest1 with
                | none =>
                  rw [p2] at r2
                  have r2 : r_tree_from m [.lst (WS.map tx), .int B, .int (E + 1)] = .exc "NoText" [] := r2
                  show _ = FR.exc "NoText" []
                  clear lx hW hA hB
                  generalize d.d = DD at *
                  generalize WS.map tx = WW at *
                  generalize tx ((63 :: r).drop 1) = UD at *
                  generalize tx [63] = UT at *
                  generalize tx (63 :: r) = U at *
                  unfold r_tree_from b_tree_from
                  simp! [plus_D, cut_D, marks_D, lw, hi, q, cu, ci, ix, k4, q33, n9, r1, r2]
                | some y =>
                  obtain ⟨b, rest2⟩ := y
                  rw [p2] at r2
                  have r2 : r_tree_from m [.lst (WS.map tx), .int B, .int (E + 1)] = .ok (.tup [b.d, .int ((WS.length - rest2.length : Nat) : Int)]) [] := r2
                  show _ = FR.ok (.tup [.tup [.str "try", cellP c, d.d, b.d], .int ((WS.length - rest2.length : Nat) : Int)]) []
                  clear lx hW hA hB
                  generalize ((WS.length - rest2.length : Nat) : Int) = BB at *
                  generalize d.d = DD at *
                  generalize b.d = DB at *
                  generalize WS.map tx = WW at *
                  generalize tx ((63 :: r).drop 1) = UD at *
                  generalize tx [63] = UT at *
                  generalize tx (63 :: r) = U at *
                  unfold r_tree_from b_tree_from
                  simp! [plus_D, cut_D, marks_D, lw, hi, q, cu, ci, ix, k4, q33, n9, r1, r2, cellP, sz_4]
          · rw [if_neg h63]
            rw [decide_eq_false (by simp [h33, h63])] at k4
            show _ = FR.exc "NoText" []
            clear lx hW hA
            generalize WS.map tx = WW at *
            generalize tx ((a :: r).drop 1) = UD at *
            generalize tx [a] = UT at *
            generalize tx (a :: r) = U at *
            unfold r_tree_from b_tree_from
            simp! [plus_D, cut_D, marks_D, lw, hi, q, cu, ci, ix, k4]

theorem read_gen {l : List Nat} (hl : l.length ≤ 9000) (ho : OkS l) : f_read_tree [tx l] = match prog (sp1 32 l) with
    | some t => .ok t.d []
    | none => .exc "NoText" [] := by
  have sp := tx_split1 (s := 32) (l := l) (by decide) (by omega)
  rw [← blank_D] at sp
  have ln : (sp1 32 l).length ≤ 9001 := by rw [sp1_len 32 _ l (Nat.le_refl _)]; have := List.count_le_length (a := 32) (l := l); omega
  have hst : isStr (tx l) = true := rfl
  have ty : dIsi [tx l, .ty "str"] = some (.bl true) := by kernel_rfl
  have z1 : ((sp1 32 l).map tx).length ≤ sizeLine := by rw [List.length_map, sizeLine_eq]; omega
  have e := from_gen 14 (sp1 32 l) [] (sp1 32 l) 0 0 0 rfl (by omega) (sp_ok hl ho) (by decide) (by decide) rfl rfl
  have fp : f_tree_from = r_tree_from 14 := rfl
  have hn : (((sp1 32 l).map tx).length : Int) = ((sp1 32 l).length : Int) := by rw [List.length_map]
  unfold prog
  cases hp : pf 14 0 (sp1 32 l) with
  | none =>
    rw [hp] at e
    have e : r_tree_from 14 [.lst ((sp1 32 l).map tx), .int 0, .int 0] = .exc "NoText" [] := e
    show _ = FR.exc "NoText" []
    rw [← fp] at e
    generalize (sp1 32 l).map tx = W1 at *
    generalize tx l = TL1 at *
    unfold f_read_tree b_read_tree
    simp! [ty, hst, sp, z1, e]
  | some x =>
    obtain ⟨t, r⟩ := x
    rw [hp] at e
    have e : r_tree_from 14 [.lst ((sp1 32 l).map tx), .int 0, .int 0] = .ok (.tup [t.d, .int (((sp1 32 l).length - r.length : Nat) : Int)]) [] := e
    rw [← fp] at e
    obtain ⟨q, hq⟩ := pf_suf 14 0 _ _ _ hp
    cases r with
    | nil =>
      show _ = FR.ok t.d []
      rw [List.length_nil, Nat.sub_zero] at e
      generalize t.d = TD at *
      generalize ((sp1 32 l).length : Int) = N at *
      generalize (sp1 32 l).map tx = W1 at *
      generalize tx l = TL1 at *
      unfold f_read_tree b_read_tree
      simp! [ty, hst, sp, z1, e, hn]
    | cons u r =>
      show _ = FR.exc "NoText" []
      have ne : ¬ (((sp1 32 l).length - (u :: r).length : Nat) : Int) = ((sp1 32 l).length : Int) := by
        rw [hq, List.length_append, List.length_cons]
        omega
      generalize (((sp1 32 l).length - (u :: r).length : Nat) : Int) = B at *
      generalize t.d = TD at *
      generalize ((sp1 32 l).length : Int) = N at *
      generalize (sp1 32 l).map tx = W1 at *
      generalize tx l = TL1 at *
      unfold f_read_tree b_read_tree
      simp! [ty, hst, sp, z1, e, hn, ne]
theorem right_bad {X : D} (h : f_read_tree [X] = .exc "NoText" []) : f_law_right [X, .non] = .ok (.bl true) [] := by
  unfold f_law_right b_law_right b_law_right_1 e_law_right_2
  simp! [h]
  kernel_rfl
theorem right_is {l : List Nat} (hl : l.length ≤ 9000) (ho : OkS l) : f_law_right [tx l, dueD (due (sp1 32 l))] = .ok (.bl true) [] := by
  have e := read_gen hl ho
  rw [prog_due] at e
  cases hd : due (sp1 32 l) with
  | none =>
    rw [hd] at e
    exact right_bad e
  | some t =>
    rw [hd] at e
    have e : f_read_tree [tx l] = .ok t.d [] := e
    have q := eq_tree (t := t) (by have := due_h hd; omega)
    have nn : dIsNot t.d .non = some (.bl true) := by cases t <;> rfl
    show f_law_right [tx l, t.d] = _
    generalize t.d = TD at *
    generalize tx l = X at *
    unfold f_law_right b_law_right b_law_right_1 e_law_right_2
    simp! [e, nn, q]
theorem right_no {l : List Nat} (hl : l.length ≤ 9000) (ho : OkS l) (hd : (due (sp1 32 l)).isNone = true) : f_law_right [tx l, .non] = .ok (.bl true) [] := by
  have e := right_is hl ho
  rw [Option.isNone_iff_eq_none.mp hd] at e
  exact e
theorem not_text {X : D} (h : dIsi [X, .ty "str"] = some (.bl false)) : f_law_right [X, .non] = .ok (.bl true) [] := by
  refine right_bad ?_
  unfold f_read_tree b_read_tree
  simp! [h]
theorem ok_all {l : List Nat} (h : l.all (fun c => decide (c < 256)) = true) : OkS l := fun c hc => of_decide_eq_true (List.all_eq_true.mp h c hc)
theorem odd1 : f_law_right [.non, .non] = .ok (.bl true) [] := not_text (by kernel_rfl)
theorem odd2 : f_law_right [.int 0, .non] = .ok (.bl true) [] := not_text (by kernel_rfl)
theorem odd3 : f_law_right [.bl true, .non] = .ok (.bl true) [] := not_text (by kernel_rfl)
theorem odd4 : f_law_right [.lst [], .non] = .ok (.bl true) [] := not_text (by kernel_rfl)
theorem odd5 : f_law_right [.lst [.str "+"], .non] = .ok (.bl true) [] := not_text (by kernel_rfl)
theorem odd6 : f_law_right [.tup [.str "found"], .non] = .ok (.bl true) [] := not_text (by kernel_rfl)
theorem odd7 : f_law_right [.dicT false [], .non] = .ok (.bl true) [] := not_text (by kernel_rfl)
theorem tx_of {z : Str} {l : List Nat} (h : z = mkS l) : D.str z = tx l := by rw [h]
theorem odd_t {z : Str} {l : List Nat} (h : z = mkS l) (hl : l.length ≤ 9000) (ho : l.all (fun c => decide (c < 256)) = true) (hd : (due (sp1 32 l)).isNone = true) : f_law_right [.str z, .non] = .ok (.bl true) [] := by
  rw [tx_of h]
  exact right_no hl (ok_all ho) hd
theorem odd8 : f_law_right [.str "", .non] = .ok (.bl true) [] := odd_t (l := []) (by kernel_rfl) (by decide) (by decide) (by decide +kernel)
theorem odd9 : f_law_right [.str " ", .non] = .ok (.bl true) [] := odd_t (l := [32]) (by kernel_rfl) (by decide) (by decide) (by decide +kernel)
theorem odd10 : f_law_right [.str "?0,0", .non] = .ok (.bl true) [] := odd_t (l := [63, 48, 44, 48]) (by kernel_rfl) (by decide) (by decide) (by decide +kernel)
theorem odd11 : f_law_right [.str "++", .non] = .ok (.bl true) [] := odd_t (l := [43, 43]) (by kernel_rfl) (by decide) (by decide) (by decide +kernel)
theorem odd12 : f_law_right [.str "?0,0 +", .non] = .ok (.bl true) [] := odd_t (l := [63, 48, 44, 48, 32, 43]) (by kernel_rfl) (by decide) (by decide) (by decide +kernel)
theorem odd13 : f_law_right [.str "!", .non] = .ok (.bl true) [] := odd_t (l := [33]) (by kernel_rfl) (by decide) (by decide) (by decide +kernel)
theorem odd14 : f_law_right [.str "?", .non] = .ok (.bl true) [] := odd_t (l := [63]) (by kernel_rfl) (by decide) (by decide) (by decide +kernel)
theorem odd15 : f_law_right [.str "+ +", .non] = .ok (.bl true) [] := odd_t (l := [43, 32, 43]) (by kernel_rfl) (by decide) (by decide) (by decide +kernel)

def Small62 (n : Int) : Prop := -(10 ^ 61) < n ∧ n < 10 ^ 61
theorem numZ_ok (n : Int) : OkS (numZ n) := fun c hc => by
  rcases numZ_okS n c hc with h | h <;> omega
theorem numZ_len {n : Int} (h : Small62 n) : (numZ n).length ≤ 62 := by
  obtain ⟨h1, h2⟩ := h
  unfold numZ
  split
  · have := TL.numL_len (n := n.toNat) (k := 61) (by decide) (by omega)
    omega
  · have := TL.numL_len (n := (-n).toNat) (k := 61) (by decide) (by omega)
    rw [List.length_cons]
    omega
theorem str_num {n : Int} (h : Small62 n) : dStrI [.int n] = some (tx (numZ n)) := tx_str (log2_lt (by
  obtain ⟨h1, h2⟩ := h
  have : n.natAbs < 10 ^ 61 := by omega
  exact Nat.lt_trans this (by decide)))
/-! words drawn -/
theorem numT_ex {n : Nat} {p : D} (h : PenOk n p) (hn : n + 20 < 2 ^ 60) : ∃ (l : List Nat) (p' : D), f_law_number [p] = .ok (tx l) [p'] ∧ OkS l ∧ l.length ≤ 62 ∧ PenOk (n + 3) p' := by
  suffices hz : ∃ (x : Int) (p' : D), f_law_number [p] = .ok (tx (numZ x)) [p'] ∧ Small62 x ∧ PenOk (n + 3) p' by
    obtain ⟨x, p', e, s, q⟩ := hz
    exact ⟨_, p', e, numZ_ok x, numZ_len s, q⟩
  obtain ⟨x1, p1, e1, a1, b1, h1⟩ := draw_ex h (by omega) (m := 10) (by decide) (by decide)
  by_cases hx : x1 < 9
  · obtain ⟨x2, p2, e2, a2, b2, h2⟩ := draw_ex h1 (by omega) (m := 25) (by decide) (by decide)
    have sm : Small62 (x2 - 12) := ⟨by omega, by omega⟩
    have st := str_num sm
    refine ⟨x2 - 12, p2, ?_, sm, h2.mono (by omega)⟩
    generalize tx (numZ (x2 - 12)) = T at *
    unfold f_law_number b_law_number
    simp! [draw_is, e1, hx, e2, st]
  · obtain ⟨x2, p2, e2, a2, b2, h2⟩ := draw_ex h1 (by omega) (m := 3) (by decide) (by decide)
    obtain ⟨x3, p3, e3, a3, b3, h3⟩ := draw_ex h2 (by omega) (m := 2) (by decide) (by decide)
    have pw : dPow (.int 10) (.int 60) = some (.int (10 ^ 60)) := by kernel_rfl
    obtain ⟨T60, h60, hT⟩ : ∃ T60 : Int, dPow (.int 10) (.int 60) = some (.int T60) ∧ T60 = 10 ^ 60 := ⟨_, pw, rfl⟩
    have m1 : dMul (.int 2) (.int x3) = some (.int (2 * x3)) := zed (CMulA.l _ (by decide))
    have m2 : dMul (.int (T60 - 1 - x2)) (.int (1 - 2 * x3)) = some (.int ((T60 - 1 - x2) * (1 - 2 * x3))) := zed (CMulA.r _ (by omega))
    have sm : Small62 ((T60 - 1 - x2) * (1 - 2 * x3)) := by
      rcases (show x3 = 0 ∨ x3 = 1 by omega) with rfl | rfl
      · rw [show (1 : Int) - 2 * 0 = 1 by omega, Int.mul_one]
        exact ⟨by omega, by omega⟩
      · rw [show (1 : Int) - 2 * 1 = -1 by omega, Int.mul_neg, Int.mul_one]
        exact ⟨by omega, by omega⟩
    have st := str_num sm
    refine ⟨_, p3, ?_, sm, h3.mono (by omega)⟩
    generalize tx (numZ ((T60 - 1 - x2) * (1 - 2 * x3))) = T at *
    clear pw hT sm
    unfold f_law_number b_law_number
    generalize (T60 - 1 - x2) * (1 - 2 * x3) = V at *
    simp! [draw_is, e1, hx, h60, e2, m1, e3, m2, st]
def Ws (n : Nat) (V : List (List Nat)) : Prop := (∀ w ∈ V, OkS w ∧ w.length ≤ 130) ∧ V.length ≤ n
theorem words_ex : ∀ (m k : Nat) (p : D) (l : Nat) (deep : Int), 10 ≤ m + deep.toNat → 0 ≤ deep → deep ≤ 9 → l ≤ 10 → PenOk k p → k + 30 * (l + 1) * 3 < 2 ^ 59 →
    ∃ (V : List (List Nat)) (l' : Nat) (p' : D), (∀ c : Addr, r_law_words m c [p, .lst [.int (l : Int)], .int deep] = .ok (.lst (V.map tx)) [p', .lst [.int (l' : Int)]]) ∧ (∀ w ∈ V, OkS w ∧ w.length ≤ 130) ∧ V.length + 2 * l' ≤ 2 * l + 1 ∧ 1 ≤ V.length ∧ PenOk (k + 30 * (2 * (l - l') + 1)) p'
  | 0, _, _, _, deep, h1, h2, h3, _, _, _ => by omega
  | m + 1, k, p, l, deep, h1, h2, h3, l10, hp, hk => by
    obtain ⟨w, p1, e1, a1, b1, q1⟩ := draw_ex hp (by omega) (m := 4) (by decide) (by decide)
    obtain ⟨x, p2, e2, ox, lx, q2⟩ := numT_ex q1 (by omega)
    obtain ⟨y, p3, e3, oy, ly, q3⟩ := numT_ex q2 (by omega)
    have c1 := tx_add (a := x) (b := [44]) (by rw [List.length_singleton]; omega)
    have z44 : D.str "," = tx [44] := by rw [comma_is]
    rw [← z44] at c1
    have c2 := tx_add (a := x ++ [44]) (b := y) (by rw [List.length_append, List.length_singleton]; omega)
    obtain ⟨C, hC⟩ : ∃ C, x ++ [44] ++ y = C := ⟨_, rfl⟩
    have oC : OkS C := fun c hc => by
      rw [← hC, List.mem_append, List.mem_append, List.mem_singleton] at hc
      rcases hc with (hc | hc) | hc
      · exact ox c hc
      · omega
      · exact oy c hc
    have lC : C.length ≤ 125 := by
      rw [← hC, List.length_append, List.length_append, List.length_singleton]
      omega
    rw [hC] at c2
    have c3 := tx_add (a := [63]) (b := C) (by rw [List.length_singleton]; omega)
    have c4 := tx_add (a := [33]) (b := C) (by rw [List.length_singleton]; omega)
    rw [← ask_D] at c3
    rw [← cut_D] at c4
    by_cases hc : deep < 9 ∧ 0 < (l : Int) ∧ 0 < w
    · obtain ⟨d1, d2, d3⟩ := hc
      obtain ⟨V1, l1, p4, e4, v1, v2, v3, q4⟩ := words_ex m (k + 7) p3 (l - 1) (deep + 1) (by omega) (by omega) (by omega) (by omega) (q3.mono (by omega)) (by omega)
      obtain ⟨V2, l2, p5, e5, u1, u2, u3, q5⟩ := words_ex m (k + 7 + 30 * (2 * (l - 1 - l1) + 1)) p4 l1 (deep + 1) (by omega) (by omega) (by omega) (by omega) q4 (by omega)
      have el : (l : Int) - 1 = ((l - 1 : Nat) : Int) := by omega
      refine ⟨[63 :: C] ++ V1 ++ V2, l2, p5, fun c => ?_, fun v hv => ?_, ?_, ?_, q5.mono (by omega)⟩
      · have sa : ∀ (a b : D), dSetAt [a] (.int 0) b = some [b] := fun _ _ => by rfl
        have e4 := e4 c
        have e5 := e5 c
        rw [← el] at e4
        have c3 : dAdd (.str "?") (tx C) = some (tx (63 :: C)) := c3
        have a1' : dAdd (.lst [tx (63 :: C)]) (.lst (V1.map tx)) = some (.lst ([tx (63 :: C)] ++ V1.map tx)) := zfb (by rw [List.length_map, List.length_singleton]; exact szn (by omega))
        have a2' : dAdd (.lst ([tx (63 :: C)] ++ V1.map tx)) (.lst (V2.map tx)) = some (.lst ([tx (63 :: C)] ++ V1.map tx ++ V2.map tx)) := zfb (by rw [List.length_append, List.length_map, List.length_map, List.length_singleton]; exact szn (by omega))
        rw [List.map_append, List.map_append]
        show _ = FR.ok (.lst ([tx (63 :: C)] ++ V1.map tx ++ V2.map tx)) _
        generalize [tx (63 :: C)] ++ V1.map tx ++ V2.map tx = R at *
        generalize [tx (63 :: C)] ++ V1.map tx = R1 at *
        clear hC lC oC el q4 q5
        generalize V1.map tx = XV1 at *
        generalize V2.map tx = XV2 at *
        generalize tx (63 :: C) = TQ at *
        generalize tx (x ++ [44]) = TX at *
        generalize tx x = T1 at *
        generalize tx y = T2 at *
        generalize tx C = TC1 at *
        unfold r_law_words b_law_words
        generalize r_law_words m = RT at *
        generalize (l : Int) = L at *
        simp! [zlj, draw_is, e1, e2, c1, e3, c2, d1, d2, d3, atI_0, sa, e4, c3, a1', e5, a2', sz_1]
      · rcases List.mem_append.mp hv with hv | hv
        · rcases List.mem_append.mp hv with hv | hv
          · rw [List.mem_singleton.mp hv]
            exact ⟨ok_cons (by decide) oC, by rw [List.length_cons]; omega⟩
          · exact v1 v hv
        · exact u1 v hv
      · rw [List.length_append, List.length_append, List.length_singleton]
        omega
      · rw [List.length_append, List.length_append, List.length_singleton]
        omega
    · have hcond : ∀ (L : Int), L = (l : Int) → (deep < 9 → 0 < L → ¬ 0 < w) := fun L hL x y z => hc ⟨x, by omega, z⟩
      obtain ⟨v, p4, e4, a4, b4, q4⟩ := draw_ex q3 (by omega) (m := 2) (by decide) (by decide)
      have c4 : dAdd (.str "!") (tx C) = some (tx (33 :: C)) := c4
      have l2 : ∀ a b : D, dLst [a, b] = some (.lst [a, b]) := fun _ _ => by kernel_rfl
      have l1 : ∀ a : D, dLst [a] = some (.lst [a]) := fun _ => by kernel_rfl
      obtain ⟨V, av, ov, lv⟩ : ∃ V : List Nat, atI [D.lst [.str "+"], .lst [tx (33 :: C)]] v = some (.lst [tx V]) ∧ OkS V ∧ V.length ≤ 130 := by
        rcases (show v = 0 ∨ v = 1 by omega) with rfl | rfl
        · exact ⟨[43], by rw [plus_D]; exact atI_0 _ _, ok_one (by decide), by decide⟩
        · exact ⟨33 :: C, atI_1 _ _ _, ok_cons (by decide) oC, by rw [List.length_cons]; omega⟩
      refine ⟨[V], l, p4, fun c => ?_, fun v' hv => ?_, by rw [List.length_singleton]; omega, Nat.le_refl _, q4.mono (by omega)⟩
      · have hcd := hcond (l : Int) rfl
        show _ = FR.ok (.lst [tx V]) _
        clear hC lC oC q4 hcond hc lv ov
        generalize tx V = TV at *
        generalize tx (33 :: C) = TQ at *
        generalize tx (63 :: C) = TQ2 at *
        generalize tx (x ++ [44]) = TX at *
        generalize tx x = T1 at *
        generalize tx y = T2 at *
        generalize tx C = TC1 at *
        unfold r_law_words b_law_words
        generalize (l : Int) = L at *
        by_cases k1 : deep < 9
        · by_cases k2 : 0 < L
          · have k3 := hcd k1 k2
            simp! [zlj, draw_is, e1, e2, c1, e3, c2, k1, k2, k3, atI_0, c4, l1, l2, e4, av]
          · simp! [zlj, draw_is, e1, e2, c1, e3, c2, k1, k2, atI_0, c4, l1, l2, e4, av]
        · simp! [zlj, draw_is, e1, e2, c1, e3, c2, k1, c4, l1, l2, e4, av]
      · rw [List.mem_singleton.mp hv]
        exact ⟨ov, lv⟩

def Sm (n : Nat) (l : List Nat) : Prop := OkS l ∧ l.length ≤ n
theorem cut_sub {l : List Nat} (lo hi : Option Int) : ∀ c ∈ cutG l lo hi, c ∈ l := fun c hc => by
  unfold cutG at hc
  exact List.mem_of_mem_drop (List.mem_of_mem_take hc)
theorem cut_le {l : List Nat} (lo hi : Option Int) : (cutG l lo hi).length ≤ l.length := by
  unfold cutG
  rw [List.length_take, List.length_drop]
  omega
/-- a text of plain signs, not long -/
def Tx (n : Nat) (d : D) : Prop := ∃ l, d = tx l ∧ Sm n l
theorem Tx.mono {n m : Nat} {d : D} (h : Tx n d) (hn : n ≤ m) : Tx m d := by
  obtain ⟨l, e, h1, h2⟩ := h
  exact ⟨l, e, h1, Nat.le_trans h2 hn⟩
theorem Tx.add {n m : Nat} {a b : D} (h : Tx n a) (h' : Tx m b) (hn : n + m ≤ 9000) : ∃ d, dAdd a b = some d ∧ Tx (n + m) d := by
  obtain ⟨l, rfl, h1, h2⟩ := h
  obtain ⟨l', rfl, h3, h4⟩ := h'
  exact ⟨_, tx_add (by omega), _, rfl, h1.app h3, by rw [List.length_append]; omega⟩
theorem Tx.cut {n : Nat} {d : D} (h : Tx n d) (hn : n ≤ 9000) (lo hi : Option Int) : ∃ d', dSlS d lo hi = some d' ∧ Tx n d' := by
  obtain ⟨l, rfl, h1, h2⟩ := h
  exact ⟨_, tx_cut lo hi (by omega), _, rfl, h1.sub (cut_sub lo hi), Nat.le_trans (cut_le lo hi) h2⟩
theorem Tx.lits {l : List Nat} {n : Nat} (h : (∀ c ∈ l, c < 256) ∧ l.length ≤ n) : Tx n (tx l) := ⟨l, rfl, h.1, h.2⟩
theorem mulT {c n : Nat} {k : Int} (hc : c < 256) (h0 : 0 ≤ k) (h1 : k ≤ n) (hn : n ≤ 4000) : ∃ d, dMulT2 (tx [c]) (.int k) = some d ∧ Tx n d := by
  refine ⟨tx (List.replicate k.toNat c), ?_, _, rfl, fun x hx => ?_, by rw [List.length_replicate]; omega⟩
  · show (if 0 ≤ k ∧ k ≤ 4000 ∧ (mkS [c]).length ≤ 1000 then some (D.str (mkS (List.replicate k.toNat (TL.tl (mkS [c]))).flatten)) else none) = _
    rw [if_pos ⟨by omega, by omega, by rw [mkS_len]; exact (show 1 ≤ 1000 by decide)⟩]
    congr 3
    rw [tl_mkS]
    have : ∀ n : Nat, (List.replicate n [c]).flatten = List.replicate n c := fun n => by
      induction n with
      | zero => rfl
      | succ n ih => rw [List.replicate_succ, List.flatten_cons, ih]; rfl
    exact this _
  · rw [List.eq_of_mem_replicate hx]
    exact hc
theorem joinL_len (s : List Nat) : ∀ ls : List (List Nat), (TL.joinL s ls).length ≤ (ls.map (·.length)).sum + ls.length * s.length
  | [] => Nat.zero_le _
  | [p] => by simp [TL.joinL]
  | p :: q :: r => by
    have := joinL_len s (q :: r)
    show (p ++ (s ++ TL.joinL s (q :: r))).length ≤ _
    rw [List.length_append, List.length_append, List.map_cons, List.sum_cons, List.length_cons, Nat.succ_mul]
    omega
theorem join_ok : ∀ {ls : List (List Nat)}, (∀ w ∈ ls, OkS w) → OkS (TL.joinL [32] ls)
  | [], _ => fun x hx => by cases hx
  | [p], h => h p List.mem_cons_self
  | p :: q :: r, h => by
    have := join_ok (ls := q :: r) fun w hw => h w (List.mem_cons_of_mem _ hw)
    show OkS (p ++ ([32] ++ TL.joinL [32] (q :: r)))
    exact (h p List.mem_cons_self).app (OkS.app (ok_one (by decide)) this)
/-! lists of words -/
def WLs (n : Nat) (d : D) : Prop := ∃ V : List (List Nat), d = .lst (V.map tx) ∧ (∀ w ∈ V, OkS w ∧ w.length ≤ 130) ∧ V.length ≤ n
theorem WLs.mono {n m : Nat} {d : D} (h : WLs n d) (hn : n ≤ m) : WLs m d := by
  obtain ⟨V, e, h1, h2⟩ := h
  exact ⟨V, e, h1, Nat.le_trans h2 hn⟩
theorem cutG_mem {α : Type} {l : List α} (lo hi : Option Int) : ∀ c ∈ cutG l lo hi, c ∈ l := fun c hc => by
  unfold cutG at hc
  exact List.mem_of_mem_drop (List.mem_of_mem_take hc)
theorem cutG_le {α : Type} {l : List α} (lo hi : Option Int) : (cutG l lo hi).length ≤ l.length := by
  unfold cutG
  rw [List.length_take, List.length_drop]
  omega
theorem WLs.cut {n : Nat} {d : D} (h : WLs n d) (lo hi : Option Int) : ∃ d', dSlL d lo hi = some d' ∧ WLs n d' := by
  obtain ⟨V, rfl, h1, h2⟩ := h
  refine ⟨.lst (cutG (V.map tx) lo hi), rfl, cutG V lo hi, by rw [cutG_map], fun w hw => h1 w (cutG_mem lo hi w hw), Nat.le_trans (cutG_le lo hi) h2⟩
theorem WLs.add {n m : Nat} {a b : D} (h : WLs n a) (h' : WLs m b) (hn : n + m ≤ 900) : ∃ d, dAdd a b = some d ∧ WLs (n + m) d := by
  obtain ⟨V, rfl, h1, h2⟩ := h
  obtain ⟨V', rfl, h3, h4⟩ := h'
  refine ⟨_, zfb (by rw [List.length_map, List.length_map]; exact szn (by omega)), V ++ V', by rw [List.map_append], fun w hw => ?_, by rw [List.length_append]; omega⟩
  rcases List.mem_append.mp hw with hw | hw
  · exact h1 w hw
  · exact h3 w hw
theorem WLs.one {w : List Nat} (h : OkS w) (h2 : w.length ≤ 130) : WLs 1 (.lst [tx w]) := ⟨[w], rfl, fun v hv => by rw [List.mem_singleton.mp hv]; exact ⟨h, h2⟩, Nat.le_refl _⟩
theorem WLs.rev {n : Nat} {d : D} (h : WLs n d) : ∃ d', dRev d = some d' ∧ WLs n d' := by
  obtain ⟨V, rfl, h1, h2⟩ := h
  exact ⟨.lst (V.map tx).reverse, rfl, V.reverse, by rw [List.map_reverse], fun w hw => h1 w (List.mem_reverse.mp hw), by rw [List.length_reverse]; exact h2⟩
theorem sum_130 : ∀ V : List (List Nat), (∀ w ∈ V, w.length ≤ 130) → (V.map (·.length)).sum ≤ 130 * V.length
  | [], _ => Nat.le_refl _
  | w :: V, h => by
    have h1 := sum_130 V fun v hv => h v (List.mem_cons_of_mem _ hv)
    have h2 := h w List.mem_cons_self
    simp only [List.map_cons, List.sum_cons, List.length_cons]
    omega
theorem WLs.join {n : Nat} {d : D} (h : WLs n d) (hn : n ≤ 60) : ∃ d', dJoin (.str " ") d = some d' ∧ Tx (131 * n) d' := by
  obtain ⟨V, rfl, h1, h2⟩ := h
  have s := sum_130 V fun w hw => (h1 w hw).2
  have jl := joinL_len [32] V
  rw [List.length_singleton] at jl
  have j := tx_join (a := [32]) (ls := V) (by rw [List.length_singleton]; omega)
  rw [← blank_D] at j
  exact ⟨_, j, _, rfl, join_ok fun w hw => (h1 w hw).1, by omega⟩
theorem flat_rep {α : Type} (l : List α) : ∀ m, (List.replicate m l).flatten.length = m * l.length
  | 0 => by simp
  | m + 1 => by
    rw [List.replicate_succ, List.flatten_cons, List.length_append, flat_rep l m, Nat.succ_mul]
    omega
theorem rep_wl {l : List (List Nat)} (h : ∀ w ∈ l, OkS w ∧ w.length ≤ 130) (hl : l.length ≤ 2) {M : Int} {m : Nat} (hM : (m : Int) = M) (hm : m ≤ 11) : ∃ d, dRepL (.lst (l.map tx)) (.int M) = some d ∧ WLs 22 d := by
  have ml : l.length * m ≤ 2 * 11 := Nat.mul_le_mul hl hm
  refine ⟨.lst (List.replicate M.toNat (l.map tx)).flatten, if_pos (c := 0 ≤ M ∧ M ≤ 1000 ∧ (l.map tx).length * M.toNat ≤ sizeLine) ⟨by omega, by omega, ?_⟩, (List.replicate m l).flatten, ?_, fun w hw => ?_, ?_⟩
  · rw [List.length_map, show M.toNat = m by omega, sizeLine_eq]
    omega
  · rw [show M.toNat = m by omega, List.map_flatten, List.map_replicate]
  · obtain ⟨x, hx, hw⟩ := List.mem_flatten.mp hw
    rw [(List.mem_replicate.mp hx).2] at hw
    exact h w hw
  · rw [flat_rep, Nat.mul_comm]
    omega
theorem dbl_len : ∀ l : List Nat, (StrLaws.dbl 32 l).length ≤ 2 * l.length
  | [] => Nat.le_refl _
  | a :: l => by
    have := dbl_len l
    unfold StrLaws.dbl
    by_cases h : a = 32
    · simp only [h, List.length_cons] at *
      simp
      omega
    · simp [h]
      omega
theorem dbl_ok : ∀ {l : List Nat}, OkS l → OkS (StrLaws.dbl 32 l)
  | [], _ => fun c hc => by cases hc
  | a :: l, h => by
    have ih := dbl_ok (l := l) fun c hc => h c (List.mem_cons_of_mem _ hc)
    have ha := h a List.mem_cons_self
    unfold StrLaws.dbl
    by_cases e : a = 32
    · simp only [e]
      intro c hc
      simp at hc
      rcases hc with hc | hc
      · omega
      · exact ih c hc
    · intro c hc
      simp [e] at hc
      rcases hc with hc | hc
      · omega
      · exact ih c hc
theorem Tx.repl {n : Nat} {d : D} (h : Tx n d) (hn : n ≤ 4000) : ∃ d', dRepC " " "  " d = some d' ∧ Tx (2 * n) d' := by
  obtain ⟨l, rfl, h1, h2⟩ := h
  have hr := PyProof.Rows.replace_dbl (mkS l) " " "  " 32 (by rfl) (by rfl)
  refine ⟨.str (Txt.replace (mkS l) " " "  "), if_pos (c := (mkS l).length + ((mkS l).length + 1) * ("  " : Str).length ≤ 16777216) ?_, StrLaws.dbl 32 l, ?_, dbl_ok h1, Nat.le_trans (dbl_len l) (by omega)⟩
  · rw [mkS_len]
    have : ("  " : Str).length = 2 := by rfl
    rw [this]
    omega
  · rw [hr]
    rfl

theorem div2 (s : Int) : dDiv (.int s) (.int 2) = some (.int (s / 2)) := if_pos (e := (none : Option D)) (c := CDivW s 2) ⟨by decide, by decide⟩
theorem one_D : D.str "1" = tx [49] := by kernel_rfl
theorem nine_D : D.str "9" = tx [57] := by kernel_rfl
noncomputable def spR : XS := (xSeq (xIfS (xTest (xOp2 dLt (xVar 3) (xC (.int 8))))
    (xRet (xOp2S dJoin (xC (.str " ")) (xIxO 7 (xVar 3))))
    xNext)
    (xSeq (xIfS (xTest (xOp2 dEq (xVar 3) (xC (.int 8))))
    (xRet (xOp2 dIx (xOpL dLst (xCons (xOp2 dAdd (xC (.str " ")) (xVar 2)) (xCons (xOp2 dAdd (xVar 2) (xC (.str " "))) (xCons (xOp2 dAdd (xVar 2) (xC (.str "\n"))) (xCons (xOp1 (dRepC " " "  ") (xVar 2)) xNil))))) (xOp2 dMod (xVar 5) (xC (.int 4)))))
    xNext)
    (xSeq (xIfS (xTest (xOp2 dEq (xVar 3) (xC (.int 9))))
    (xRet (xOp2 dIx (xOpL dLst (xCons (xOp2 dAdd (xOp2 dAdd (xC (.str "!")) (xOp2 dMulT2 (xC (.str "1")) (xC (.int 61)))) (xC (.str ",0"))) (xCons (xOp2 dAdd (xC (.str "!0,-")) (xOp2 dMulT2 (xC (.str "9")) (xC (.int 60)))) (xCons (xC (.str "!00,1")) (xCons (xC (.str "!-0,1")) (xCons (xC (.str "!1,2,3")) xNil)))))) (xOp2 dMod (xVar 5) (xC (.int 5)))))
    xNext)
    (xSeq (xIfS (xTest (xOp2 dLt (xVar 3) (xC (.int 12))))
    (xRet (xOp2 dAdd (xOp2 dAdd (xSl dSlS (xVar 2) xpNone (xpSome (xVar 5))) (xVar 6)) (xSl dSlS (xVar 2) (xpSome (xOp2 dAdd (xVar 5) (xC (.int 1)))) xpNone)))
    xNext)
    (xRet (xOp2 dIx (xOpL dLst (xCons (xOp2 dAdd (xOp2 dAdd (xSl dSlS (xVar 2) xpNone (xpSome (xVar 5))) (xVar 6)) (xSl dSlS (xVar 2) (xpSome (xVar 5)) xpNone)) (xCons (xOp2 dAdd (xSl dSlS (xVar 2) xpNone (xpSome (xVar 5))) (xSl dSlS (xVar 2) (xpSome (xOp2 dAdd (xVar 5) (xC (.int 1)))) xpNone)) xNil))) (xOp2 dSub (xVar 3) (xC (.int 12)))))))))
theorem run_seqB {fr : Bool} {s t : XS} {ρ ρ1 : Rho} (h : s ρ = .nx ρ1) : endB fr (xSeq s t ρ) = endB fr (t ρ1) := by
  show endB fr ((s ρ).seq t) = _
  rw [h]
  rfl
noncomputable def spA1 : XS := (xSet 2 (xOp2S dJoin (xC (.str " ")) (xVar 1)))
noncomputable def spA2 : XS := (xSet 3 (xCallB f_law_draw 0 (xCons (xC (.int 14)) xNil)))
noncomputable def spA3 : XS := (xSet 4 (xCallB f_law_draw 0 (xCons (xOpL dLen (xCons (xVar 1) xNil)) xNil)))
noncomputable def spA4 : XS := (xSet 5 (xCallB f_law_draw 0 (xCons (xOp2 dAdd (xOpL dLen (xCons (xVar 2) xNil)) (xC (.int 1))) xNil)))
noncomputable def spA5 : XS := (xSet 6 (xOp2 dIx (xC (.str "?!+,-0123 x_")) (xCallB f_law_draw 0 (xCons (xC (.int 12)) xNil))))
noncomputable def spA6 : XS := (xSetO 7 (xOpL dLst (xCons (xOp2 dAdd (xSl dSlL (xVar 1) xpNone (xpSome (xVar 4))) (xSl dSlL (xVar 1) (xpSome (xOp2 dAdd (xVar 4) (xC (.int 1)))) xpNone)) (xCons (xOp2 dAdd (xOp2 dAdd (xSl dSlL (xVar 1) xpNone (xpSome (xVar 4))) (xOpL dLst (xCons (xOp2 dIx (xOpL dLst (xCons (xC (.str "+")) (xCons (xC (.str "!0,0")) (xCons (xC (.str "?1,1")) (xCons (xC (.str "?")) xNil))))) (xOp2 dMod (xVar 5) (xC (.int 4)))) xNil))) (xSl dSlL (xVar 1) (xpSome (xVar 4)) xpNone)) xNil))))
noncomputable def spA7 : XS := (xSetO 7 (xOp2 dAddL (xTake 7) (xOpL dLst (xCons (xOp2 dAdd (xOp2 dAdd (xSl dSlL (xVar 1) xpNone (xpSome (xVar 4))) (xOpL dLst (xCons (xOp2 dIx (xVar 1) (xVar 4)) xNil))) (xSl dSlL (xVar 1) (xpSome (xVar 4)) xpNone)) (xCons (xOp2 dAdd (xOp2 dAdd (xSl dSlL (xVar 1) xpNone (xpSome (xVar 4))) (xSl dSlL (xVar 1) (xpSome (xOp2 dAdd (xVar 4) (xC (.int 1)))) (xpSome (xOp2 dAdd (xVar 4) (xC (.int 2)))))) (xSl dSlL (xVar 1) (xpSome (xVar 4)) (xpSome (xOp2 dAdd (xVar 4) (xC (.int 1)))))) xNil)))))
noncomputable def spA8 : XS := (xSetIx 7 (xC (.int 3)) (xOp2 dAdd (xIxO 7 (xC (.int 3))) (xSl dSlL (xVar 1) (xpSome (xOp2 dAdd (xVar 4) (xC (.int 2)))) xpNone)))
noncomputable def spA9 : XS := (xSetO 7 (xOp2 dAddL (xTake 7) (xOpL dLst (xCons (xOp2 dAdd (xVar 1) (xOpL dLst (xCons (xC (.str "+")) xNil))) (xCons (xSl dSlL (xVar 1) (xpSome (xOp1 dNeg (xC (.int 1)))) xpNone) (xCons (xOp1 dRev (xVar 1)) xNil))))))
noncomputable def spA10 : XS := (xSet 8 (xOp2 dAdd (xC (.int 9)) (xOp2 dMod (xVar 5) (xC (.int 2)))))
noncomputable def spA11 : XS := (xAppend 7 (xOp2 dIx (xOpL dLst (xCons (xOp2 dAdd (xOp2 dRepL (xOpL dLst (xCons (xC (.str "?0,0")) xNil)) (xVar 8)) (xOp2 dRepL (xOpL dLst (xCons (xC (.str "+")) xNil)) (xOp2 dAdd (xVar 8) (xC (.int 1))))) (xCons (xOp2 dAdd (xOp2 dRepL (xOpL dLst (xCons (xC (.str "?0,0")) (xCons (xC (.str "+")) xNil))) (xVar 8)) (xOpL dLst (xCons (xC (.str "!1,1")) xNil))) xNil))) (xOp2 dMod (xOp2 dDiv (xVar 5) (xC (.int 2))) (xC (.int 2)))))
theorem sp_body : b_law_spoilt = (xSeq spA1 (xSeq spA2 (xSeq spA3 (xSeq spA4 (xSeq spA5 (xSeq spA6 (xSeq spA7 (xSeq spA8 (xSeq spA9 (xSeq spA10 (xSeq spA11 spR))))))))))) := rfl
section
variable {p p1 p2 p3 p4 T G1 A B C D1 E1 F1 L1 R1 W4 WA S0 S1a S1 S2a S2 S3a S3b S3 S4 Q1 Q2 Q3 X1 X2 S7 : D} {WV : List D} {w a s g r4 r2 s2 b2 N K : Int}
theorem sp_s1 (jT : dJoin (.str " ") (.lst WV) = some T) : spA1 [.own p, .val (.lst WV), .emp, .emp, .emp, .emp, .emp, .emp, .emp] = .nx [.own p, .val (.lst WV), .val T, .emp, .emp, .emp, .emp, .emp, .emp] := by
  have isT : isStr (.str " ") = true := rfl
  unfold spA1
  simp! [isT, jT]
theorem sp_s2 (e1 : fDraw [p, .int 14] = .ok (.int w) [p1]) : spA2 [.own p, .val (.lst WV), .val T, .emp, .emp, .emp, .emp, .emp, .emp] = .nx [.own p1, .val (.lst WV), .val T, .val (.int w), .emp, .emp, .emp, .emp, .emp] := by
  unfold spA2
  simp! [draw_is, e1]
theorem sp_s3 (lnV : dLen [.lst WV] = some (.int K)) (e2 : fDraw [p1, .int K] = .ok (.int a) [p2]) : spA3 [.own p1, .val (.lst WV), .val T, .val (.int w), .emp, .emp, .emp, .emp, .emp] = .nx [.own p2, .val (.lst WV), .val T, .val (.int w), .val (.int a), .emp, .emp, .emp, .emp] := by
  unfold spA3
  simp! [draw_is, lnV, e2]
theorem sp_s4 (lnT : dLen [T] = some (.int N)) (e3 : fDraw [p2, .int (N + 1)] = .ok (.int s) [p3]) : spA4 [.own p2, .val (.lst WV), .val T, .val (.int w), .val (.int a), .emp, .emp, .emp, .emp] = .nx [.own p3, .val (.lst WV), .val T, .val (.int w), .val (.int a), .val (.int s), .emp, .emp, .emp] := by
  unfold spA4
  simp! [draw_is, lnT, e3]
theorem sp_s5 (eG : dIx (.str "?!+,-0123 x_") (.int g) = some G1) (e4 : fDraw [p3, .int 12] = .ok (.int g) [p4]) : spA5 [.own p3, .val (.lst WV), .val T, .val (.int w), .val (.int a), .val (.int s), .emp, .emp, .emp] = .nx [.own p4, .val (.lst WV), .val T, .val (.int w), .val (.int a), .val (.int s), .val G1, .emp, .emp] := by
  unfold spA5
  simp! [draw_is, eG, e4]
theorem sp_s6 (eA : dSlL (.lst WV) none (some a) = some A) (eB : dSlL (.lst WV) (some (a + 1)) none = some B) (f0 : dAdd A B = some S0) (hr4 : dMod (.int s) (.int 4) = some (.int r4)) (eW4 : atI [D.str "+", .str "!0,0", .str "?1,1", .str "?"] r4 = some W4) (f1a : dAdd A (.lst [W4]) = some S1a) (eC : dSlL (.lst WV) (some a) none = some C) (f1 : dAdd S1a C = some S1) : spA6 [.own p4, .val (.lst WV), .val T, .val (.int w), .val (.int a), .val (.int s), .val G1, .emp, .emp] = .nx [.own p4, .val (.lst WV), .val T, .val (.int w), .val (.int a), .val (.int s), .val G1, .own (.lst [S0, S1]), .emp] := by
  have l4 : ∀ x y z u : D, dLst [x, y, z, u] = some (.lst [x, y, z, u]) := fun _ _ _ _ => by kernel_rfl
  have d1 : ∀ x : D, dLst [x] = some (.lst [x]) := fun _ => by kernel_rfl
  have d2 : ∀ x y : D, dLst [x, y] = some (.lst [x, y]) := fun _ _ => by kernel_rfl
  unfold spA6
  simp! [eA, eB, f0, l4, hr4, eW4, d1, d2, f1a, eC, f1]
theorem sp_s7 (eWa : atI WV a = some WA) (eA : dSlL (.lst WV) none (some a) = some A) (eC : dSlL (.lst WV) (some a) none = some C) (f2a : dAdd A (.lst [WA]) = some S2a) (f2 : dAdd S2a C = some S2) (eD : dSlL (.lst WV) (some (a + 1)) (some (a + 2)) = some D1) (f3a : dAdd A D1 = some S3a) (eE : dSlL (.lst WV) (some a) (some (a + 1)) = some E1) (f3b : dAdd S3a E1 = some S3b) : spA7 [.own p4, .val (.lst WV), .val T, .val (.int w), .val (.int a), .val (.int s), .val G1, .own (.lst [S0, S1]), .emp] = .nx [.own p4, .val (.lst WV), .val T, .val (.int w), .val (.int a), .val (.int s), .val G1, .own (.lst [S0, S1, S2, S3b]), .emp] := by
  have d1 : ∀ x : D, dLst [x] = some (.lst [x]) := fun _ => by kernel_rfl
  have d2 : ∀ x y : D, dLst [x, y] = some (.lst [x, y]) := fun _ _ => by kernel_rfl
  have aL1 : dAddL (.lst [S0, S1]) (.lst [S2, S3b]) = some (.lst [S0, S1, S2, S3b]) := by kernel_rfl
  unfold spA7
  simp! [eWa, d1, d2, eA, eC, f2a, f2, eD, f3a, eE, f3b, aL1]
theorem sp_s8 (eF : dSlL (.lst WV) (some (a + 2)) none = some F1) (f3 : dAdd S3b F1 = some S3) : spA8 [.own p4, .val (.lst WV), .val T, .val (.int w), .val (.int a), .val (.int s), .val G1, .own (.lst [S0, S1, S2, S3b]), .emp] = .nx [.own p4, .val (.lst WV), .val T, .val (.int w), .val (.int a), .val (.int s), .val G1, .own (.lst [S0, S1, S2, S3]), .emp] := by
  have sI : atI [S0, S1, S2, S3b] 3 = some S3b := rfl
  have sS : dSetAt [S0, S1, S2, S3b] (.int 3) S3 = some [S0, S1, S2, S3] := by rfl
  unfold spA8
  simp! [sI, eF, f3, sS]
theorem sp_s9 (f4 : dAdd (.lst WV) (.lst [.str "+"]) = some S4) (eL : dSlL (.lst WV) (some (-1)) none = some L1) (eR : dRev (.lst WV) = some R1) : spA9 [.own p4, .val (.lst WV), .val T, .val (.int w), .val (.int a), .val (.int s), .val G1, .own (.lst [S0, S1, S2, S3]), .emp] = .nx [.own p4, .val (.lst WV), .val T, .val (.int w), .val (.int a), .val (.int s), .val G1, .own (.lst [S0, S1, S2, S3, S4, L1, R1]), .emp] := by
  have d1 : ∀ x : D, dLst [x] = some (.lst [x]) := fun _ => by kernel_rfl
  have d3 : ∀ x y z : D, dLst [x, y, z] = some (.lst [x, y, z]) := fun _ _ _ => by kernel_rfl
  have aL2 : dAddL (.lst [S0, S1, S2, S3]) (.lst [S4, L1, R1]) = some (.lst [S0, S1, S2, S3, S4, L1, R1]) := by kernel_rfl
  unfold spA9
  simp! [d1, d3, f4, eL, eR, aL2]
theorem sp_s10 (hr2 : dMod (.int s) (.int 2) = some (.int r2)) : spA10 [.own p4, .val (.lst WV), .val T, .val (.int w), .val (.int a), .val (.int s), .val G1, .own (.lst [S0, S1, S2, S3, S4, L1, R1]), .emp] = .nx [.own p4, .val (.lst WV), .val T, .val (.int w), .val (.int a), .val (.int s), .val G1, .own (.lst [S0, S1, S2, S3, S4, L1, R1]), .val (.int (9 + r2))] := by
  unfold spA10
  simp! [hr2]
theorem sp_s11 (u1 : dRepL (.lst [.str "?0,0"]) (.int (9 + r2)) = some Q1) (u2 : dRepL (.lst [.str "+"]) (.int (9 + r2 + 1)) = some Q2) (v1 : dAdd Q1 Q2 = some X1) (u3 : dRepL (.lst [.str "?0,0", .str "+"]) (.int (9 + r2)) = some Q3) (v2 : dAdd Q3 (.lst [.str "!1,1"]) = some X2) (hs2 : dDiv (.int s) (.int 2) = some (.int s2)) (hb2 : dMod (.int s2) (.int 2) = some (.int b2)) (eS7 : atI [X1, X2] b2 = some S7) : spA11 [.own p4, .val (.lst WV), .val T, .val (.int w), .val (.int a), .val (.int s), .val G1, .own (.lst [S0, S1, S2, S3, S4, L1, R1]), .val (.int (9 + r2))] = .nx [.own p4, .val (.lst WV), .val T, .val (.int w), .val (.int a), .val (.int s), .val G1, .own (.lst [S0, S1, S2, S3, S4, L1, R1, S7]), .val (.int (9 + r2))] := by
  have hz7 : ([S0, S1, S2, S3, S4, L1, R1] : List D).length < sizeLine := szBl (show 7 ≤ 20000 by decide)
  have d1 : ∀ x : D, dLst [x] = some (.lst [x]) := fun _ => by kernel_rfl
  have d2 : ∀ x y : D, dLst [x, y] = some (.lst [x, y]) := fun _ _ => by kernel_rfl
  have ap7 : ∀ ρ : Rho, appk2 7 S7 [S0, S1, S2, S3, S4, L1, R1] ρ = .nx (ρ.set 7 (.own (.lst ([S0, S1, S2, S3, S4, L1, R1] ++ [S7])))) := fun ρ => if_pos hz7
  unfold spA11
  simp! [d1, d2, u1, u2, v1, u3, v2, hs2, hb2, eS7, ap7]
end
theorem sp_pre {p p1 p2 p3 p4 T G1 A B C D1 E1 F1 L1 R1 W4 WA S0 S1a S1 S2a S2 S3a S3b S3 S4 Q1 Q2 Q3 X1 X2 S7 : D} {WV : List D} {w a s g r4 r2 s2 b2 N K : Int}
    (jT : dJoin (.str " ") (.lst WV) = some T) (lnT : dLen [T] = some (.int N)) (lnV : dLen [.lst WV] = some (.int K))
    (e1 : fDraw [p, .int 14] = .ok (.int w) [p1]) (e2 : fDraw [p1, .int K] = .ok (.int a) [p2]) (e3 : fDraw [p2, .int (N + 1)] = .ok (.int s) [p3]) (e4 : fDraw [p3, .int 12] = .ok (.int g) [p4])
    (eG : dIx (.str "?!+,-0123 x_") (.int g) = some G1) (eA : dSlL (.lst WV) none (some a) = some A) (eB : dSlL (.lst WV) (some (a + 1)) none = some B) (eC : dSlL (.lst WV) (some a) none = some C) (eD : dSlL (.lst WV) (some (a + 1)) (some (a + 2)) = some D1) (eE : dSlL (.lst WV) (some a) (some (a + 1)) = some E1) (eF : dSlL (.lst WV) (some (a + 2)) none = some F1) (eL : dSlL (.lst WV) (some (-1)) none = some L1) (eR : dRev (.lst WV) = some R1)
    (hr4 : dMod (.int s) (.int 4) = some (.int r4)) (eW4 : atI [D.str "+", .str "!0,0", .str "?1,1", .str "?"] r4 = some W4) (eWa : atI WV a = some WA)
    (f0 : dAdd A B = some S0) (f1a : dAdd A (.lst [W4]) = some S1a) (f1 : dAdd S1a C = some S1) (f2a : dAdd A (.lst [WA]) = some S2a) (f2 : dAdd S2a C = some S2) (f3a : dAdd A D1 = some S3a) (f3b : dAdd S3a E1 = some S3b) (f3 : dAdd S3b F1 = some S3) (f4 : dAdd (.lst WV) (.lst [.str "+"]) = some S4)
    (hr2 : dMod (.int s) (.int 2) = some (.int r2)) (u1 : dRepL (.lst [.str "?0,0"]) (.int (9 + r2)) = some Q1) (u2 : dRepL (.lst [.str "+"]) (.int (9 + r2 + 1)) = some Q2) (u3 : dRepL (.lst [.str "?0,0", .str "+"]) (.int (9 + r2)) = some Q3) (v1 : dAdd Q1 Q2 = some X1) (v2 : dAdd Q3 (.lst [.str "!1,1"]) = some X2)
    (hs2 : dDiv (.int s) (.int 2) = some (.int s2)) (hb2 : dMod (.int s2) (.int 2) = some (.int b2)) (eS7 : atI [X1, X2] b2 = some S7)  :
    f_law_spoilt [p, .lst WV] = endB false (spR [.own p4, .val (.lst WV), .val T, .val (.int w), .val (.int a), .val (.int s), .val G1, .own (.lst [S0, S1, S2, S3, S4, L1, R1, S7]), .val (.int (9 + r2))]) := by
  unfold f_law_spoilt
  rw [sp_body]
  show endB false ((xSeq spA1 (xSeq spA2 (xSeq spA3 (xSeq spA4 (xSeq spA5 (xSeq spA6 (xSeq spA7 (xSeq spA8 (xSeq spA9 (xSeq spA10 (xSeq spA11 spR))))))))))) [.own p, .val (.lst WV), .emp, .emp, .emp, .emp, .emp, .emp, .emp]) = _
  refine (run_seqB (sp_s1 jT)).trans ?_
  refine (run_seqB (sp_s2 e1)).trans ?_
  refine (run_seqB (sp_s3 lnV e2)).trans ?_
  refine (run_seqB (sp_s4 lnT e3)).trans ?_
  refine (run_seqB (sp_s5 eG e4)).trans ?_
  refine (run_seqB (sp_s6 eA eB f0 hr4 eW4 f1a eC f1)).trans ?_
  refine (run_seqB (sp_s7 eWa eA eC f2a f2 eD f3a eE f3b)).trans ?_
  refine (run_seqB (sp_s8 eF f3)).trans ?_
  refine (run_seqB (sp_s9 f4 eL eR)).trans ?_
  refine (run_seqB (sp_s10 hr2)).trans ?_
  refine (run_seqB (sp_s11 u1 u2 v1 u3 v2 hs2 hb2 eS7)).trans ?_
  rfl
theorem spoilt_ex {n : Nat} {p : D} (hp : PenOk n p) (hn : n + 50 < 2 ^ 60) {V : List (List Nat)} (hV : ∀ w ∈ V, OkS w ∧ w.length ≤ 130) (l1 : 1 ≤ V.length) (l2 : V.length ≤ 11) : ∃ l' p', f_law_spoilt [p, .lst (V.map tx)] = .ok (tx l') [p'] ∧ Sm 9000 l' ∧ PenOk (n + 10) p' := by
  suffices h : ∃ d p', f_law_spoilt [p, .lst (V.map tx)] = .ok d [p'] ∧ Tx 9000 d ∧ PenOk (n + 10) p' by
    obtain ⟨d, p', e, ⟨l', rfl, hs⟩, hq⟩ := h
    exact ⟨l', p', e, hs, hq⟩
  have wV : WLs 11 (.lst (V.map tx)) := ⟨V, rfl, hV, l2⟩
  obtain ⟨T, jT, hT⟩ := wV.join (by decide)
  obtain ⟨TL1, eT, hS⟩ := id hT
  have lnT : dLen [T] = some (.int (TL1.length : Nat)) := by rw [eT]; exact tx_len (by have := hS.2; omega)
  have sT : isStr T = true := by rw [eT]; rfl
  have hl := hS.2
  obtain ⟨N, hN⟩ : ∃ N : Int, ((TL1.length : Nat) : Int) = N := ⟨_, rfl⟩
  rw [hN] at lnT
  have lnV : dLen [.lst (V.map tx)] = some (.int ((V.map tx).length : Nat)) := rfl
  obtain ⟨K, hK⟩ : ∃ K : Int, (((V.map tx).length : Nat) : Int) = K := ⟨_, rfl⟩
  have hK2 : ((V.length : Nat) : Int) = K := by rw [← hK, List.length_map]
  rw [hK] at lnV
  obtain ⟨w, p1, e1, w0, w1, h1⟩ := draw_ex hp (by omega) (m := 14) (by decide) (by decide)
  obtain ⟨a, p2, e2, a0, a1, h2⟩ := draw_ex h1 (by omega) (m := K) (by omega) (by omega)
  obtain ⟨s, p3, e3, s0, s1, h3⟩ := draw_ex h2 (by omega) (m := N + 1) (by omega) (by omega)
  obtain ⟨g, p4, e4, g0, g1, h4⟩ := draw_ex h3 (by omega) (m := 12) (by decide) (by decide)
  have hq := h4.mono (m := n + 10) (by omega)
  obtain ⟨G1, eG, tG⟩ : ∃ G1, dIx (.str "?!+,-0123 x_") (.int g) = some G1 ∧ Tx 1 G1 := by
    have hs : D.str "?!+,-0123 x_" = tx [63, 33, 43, 44, 45, 48, 49, 50, 51, 32, 120, 95] := by kernel_rfl
    rw [hs, tx_ix g (by decide)]
    obtain ⟨c, hc⟩ : ∃ c, ([63, 33, 43, 44, 45, 48, 49, 50, 51, 32, 120, 95] : List Nat)[g.toNat]? = some c := ⟨_, List.getElem?_eq_getElem (by simp only [List.length_cons, List.length_nil]; omega)⟩
    have ha : atI ([63, 33, 43, 44, 45, 48, 49, 50, 51, 32, 120, 95] : List Nat) g = some c := by
      have : g = ((g.toNat : Nat) : Int) := by omega
      rw [this]
      exact atI_nat hc
    rw [ha]
    refine ⟨tx [c], rfl, Tx.lits ⟨fun x hx => ?_, Nat.le_refl _⟩⟩
    rw [List.mem_singleton.mp hx]
    have : ∀ c ∈ ([63, 33, 43, 44, 45, 48, 49, 50, 51, 32, 120, 95] : List Nat), c < 256 := by decide
    exact this c (List.mem_of_getElem? hc)
  obtain ⟨A, eA, tA⟩ := wV.cut none (some a)
  obtain ⟨B, eB, tB⟩ := wV.cut (some (a + 1)) none
  obtain ⟨C, eC, tC⟩ := wV.cut (some a) none
  obtain ⟨D1, eD, tD⟩ := wV.cut (some (a + 1)) (some (a + 2))
  obtain ⟨E1, eE, tE⟩ := wV.cut (some a) (some (a + 1))
  obtain ⟨F1, eF, tF⟩ := wV.cut (some (a + 2)) none
  obtain ⟨L1, eL, tL⟩ := wV.cut (some (-1)) none
  obtain ⟨R1, eR, tR⟩ := wV.rev
  obtain ⟨r4, hr4, r40, r41⟩ : ∃ r4 : Int, dMod (.int s) (.int 4) = some (.int r4) ∧ 0 ≤ r4 ∧ r4 < 4 := ⟨s % 4, zef (by decide), Int.emod_nonneg _ (by decide), Int.emod_lt_of_pos _ (by decide)⟩
  obtain ⟨W4, eW4, tW4⟩ : ∃ W4, atI [D.str "+", .str "!0,0", .str "?1,1", .str "?"] r4 = some W4 ∧ WLs 1 (.lst [W4]) := by
    have z1 : D.str "!0,0" = tx [33, 48, 44, 48] := by kernel_rfl
    have z2 : D.str "?1,1" = tx [63, 49, 44, 49] := by kernel_rfl
    rcases (show r4 = 0 ∨ r4 = 1 ∨ r4 = 2 ∨ r4 = 3 by omega) with rfl | rfl | rfl | rfl
    · exact ⟨_, rfl, by rw [plus_D]; exact WLs.one (ok_all (by decide)) (by decide)⟩
    · exact ⟨_, rfl, by rw [z1]; exact WLs.one (ok_all (by decide)) (by decide)⟩
    · exact ⟨_, rfl, by rw [z2]; exact WLs.one (ok_all (by decide)) (by decide)⟩
    · exact ⟨_, rfl, by rw [ask_D]; exact WLs.one (ok_all (by decide)) (by decide)⟩
  obtain ⟨wa, hwa⟩ : ∃ wa, V[a.toNat]? = some wa := ⟨_, List.getElem?_eq_getElem (by omega)⟩
  have eWa : atI (V.map tx) a = some (tx wa) := by
    have : a = ((a.toNat : Nat) : Int) := by omega
    rw [this]
    exact atI_at tx hwa
  have tWa : WLs 1 (.lst [tx wa]) := by
    obtain ⟨o, q⟩ := hV wa (List.mem_of_getElem? hwa)
    exact WLs.one o q
  obtain ⟨S0, f0, t0⟩ := tA.add tB (by decide)
  obtain ⟨S1a, f1a, t1a⟩ := tA.add tW4 (by decide)
  obtain ⟨S1, f1, t1⟩ := t1a.add tC (by decide)
  obtain ⟨S2a, f2a, t2a⟩ := tA.add tWa (by decide)
  obtain ⟨S2, f2, t2⟩ := t2a.add tC (by decide)
  obtain ⟨S3a, f3a, t3a⟩ := tA.add tD (by decide)
  obtain ⟨S3b, f3b, t3b⟩ := t3a.add tE (by decide)
  obtain ⟨S3, f3, t3⟩ := t3b.add tF (by decide)
  have tP : WLs 1 (.lst [.str "+"]) := by rw [plus_D]; exact WLs.one (ok_one (by decide)) (by decide)
  obtain ⟨S4, f4, t4⟩ := wV.add tP (by decide)
  obtain ⟨r2, hr2, r20, r21⟩ : ∃ r2 : Int, dMod (.int s) (.int 2) = some (.int r2) ∧ 0 ≤ r2 ∧ r2 < 2 := ⟨s % 2, zef (by decide), Int.emod_nonneg _ (by decide), Int.emod_lt_of_pos _ (by decide)⟩
  have zq : D.str "?0,0" = tx [63, 48, 44, 48] := by kernel_rfl
  have zx : D.str "!1,1" = tx [33, 49, 44, 49] := by kernel_rfl
  obtain ⟨Q1, u1, y1⟩ := rep_wl (l := [[63, 48, 44, 48]]) (fun w hw => by rw [List.mem_singleton.mp hw]; exact ⟨ok_all (by decide), by decide⟩) (by decide) (M := 9 + r2) (m := (9 + r2).toNat) (by omega) (by omega)
  obtain ⟨Q2, u2, y2⟩ := rep_wl (l := [[43]]) (fun w hw => by rw [List.mem_singleton.mp hw]; exact ⟨ok_all (by decide), by decide⟩) (by decide) (M := 9 + r2 + 1) (m := (9 + r2 + 1).toNat) (by omega) (by omega)
  obtain ⟨Q3, u3, y3⟩ := rep_wl (l := [[63, 48, 44, 48], [43]]) (fun w hw => by
    simp only [List.mem_cons, List.not_mem_nil, or_false] at hw
    rcases hw with rfl | rfl
    · exact ⟨ok_all (by decide), by decide⟩
    · exact ⟨ok_all (by decide), by decide⟩) (by decide) (M := 9 + r2) (m := (9 + r2).toNat) (by omega) (by omega)
  simp only [List.map_cons, List.map_nil] at u1 u2 u3
  rw [← zq] at u1 u3
  rw [← plus_D] at u2 u3
  have tX : WLs 1 (.lst [.str "!1,1"]) := by rw [zx]; exact WLs.one (ok_all (by decide)) (by decide)
  obtain ⟨X1, v1, x1⟩ := y1.add y2 (by decide)
  obtain ⟨X2, v2, x2⟩ := y3.add tX (by decide)
  obtain ⟨s2, hs2, s20⟩ : ∃ s2 : Int, dDiv (.int s) (.int 2) = some (.int s2) ∧ 0 ≤ s2 := ⟨s / 2, div2 s, by omega⟩
  obtain ⟨b2, hb2, b20, b21⟩ : ∃ b2 : Int, dMod (.int s2) (.int 2) = some (.int b2) ∧ 0 ≤ b2 ∧ b2 < 2 := ⟨s2 % 2, zef (by decide), Int.emod_nonneg _ (by decide), Int.emod_lt_of_pos _ (by decide)⟩
  obtain ⟨S7, eS7, t7⟩ : ∃ S7, atI [X1, X2] b2 = some S7 ∧ WLs 44 S7 := by
    rcases (show b2 = 0 ∨ b2 = 1 by omega) with rfl | rfl
    · exact ⟨_, atI_0 _ _, x1⟩
    · exact ⟨_, atI_1 _ _ _, x2.mono (by decide)⟩
  have l4 : ∀ x y z u : D, dLst [x, y, z, u] = some (.lst [x, y, z, u]) := fun _ _ _ _ => by kernel_rfl
  have l5 : ∀ x y z u v : D, dLst [x, y, z, u, v] = some (.lst [x, y, z, u, v]) := fun _ _ _ _ _ => by kernel_rfl
  have isT : isStr (.str " ") = true := rfl
  have tB1 : Tx 1 (.str " ") := by rw [blank_D]; exact Tx.lits ⟨by decide, by decide⟩
  obtain ⟨C1, g5, k5⟩ := hT.cut (by decide) none (some s)
  obtain ⟨C2, g6, k6⟩ := hT.cut (by decide) (some (s + 1)) none
  obtain ⟨C3, g7, k7⟩ := hT.cut (by decide) (some s) none
  obtain ⟨B1, g8, k8⟩ := k5.add tG (by decide)
  obtain ⟨B2, g9, k9⟩ := k8.add k6 (by decide)
  obtain ⟨B3, g10, k10⟩ := k8.add k7 (by decide)
  obtain ⟨B4, g11, k11⟩ := k5.add k6 (by decide)
  have tN1 : Tx 1 (.str "\n") := by rw [show D.str "\n" = tx [10] by kernel_rfl]; exact Tx.lits ⟨by decide, by decide⟩
  have tL0 := tL
  have tR0 := tR
  clear hK hK2 hN eT hl wV tA tB tC tD tE tF tL tR tW4 tWa t1a t2a t3a t3b y1 y2 y3 zq zx tP tX
  generalize V.map tx = WV at *
  generalize tx wa = WA at *
  have pre := sp_pre jT lnT lnV e1 e2 e3 e4 eG eA eB eC eD eE eF eL eR hr4 eW4 eWa f0 f1a f1 f2a f2 f3a f3b f3 f4 hr2 u1 u2 u3 v1 v2 hs2 hb2 eS7
  clear lnV e1 e2 e3 e4 eG eA eB eC eD eE eF eL eR eW4 eWa f0 f1a f1 f2a f2 f3a f3b f3 f4 hr2 u1 u2 u3 v1 v2 hs2 hb2 eS7
  by_cases c8 : w < 8
  · obtain ⟨SW, eSW, tSW⟩ : ∃ SW, atI [S0, S1, S2, S3, S4, L1, R1, S7] w = some SW ∧ WLs 44 SW := by
      rcases (show w = 0 ∨ w = 1 ∨ w = 2 ∨ w = 3 ∨ w = 4 ∨ w = 5 ∨ w = 6 ∨ w = 7 by omega) with rfl | rfl | rfl | rfl | rfl | rfl | rfl | rfl
      · exact ⟨_, rfl, t0.mono (by decide)⟩
      · exact ⟨_, rfl, t1.mono (by decide)⟩
      · exact ⟨_, rfl, t2.mono (by decide)⟩
      · exact ⟨_, rfl, t3.mono (by decide)⟩
      · exact ⟨_, rfl, t4.mono (by decide)⟩
      · exact ⟨_, rfl, tL0.mono (by decide)⟩
      · exact ⟨_, rfl, tR0.mono (by decide)⟩
      · exact ⟨_, rfl, t7⟩
    obtain ⟨J, jJ, tJ⟩ := tSW.join (by decide)
    refine ⟨J, p4, pre.trans ?_, tJ.mono (by decide), hq⟩
    unfold spR
    simp! [isT, jT, l4, hr4, c8, eSW, jJ]
  · by_cases c9 : w = 8
    · obtain ⟨H1, g12, k12⟩ := tB1.add hT (by decide)
      obtain ⟨H2, g13, k13⟩ := hT.add tB1 (by decide)
      obtain ⟨H3, g14, k14⟩ := hT.add tN1 (by decide)
      obtain ⟨H4, g15, k15⟩ := hT.repl (by decide)
      obtain ⟨J, eJ, tJ⟩ : ∃ J, atI [H1, H2, H3, H4] r4 = some J ∧ Tx 9000 J := by
        rcases (show r4 = 0 ∨ r4 = 1 ∨ r4 = 2 ∨ r4 = 3 by omega) with rfl | rfl | rfl | rfl
        · exact ⟨_, rfl, k12.mono (by decide)⟩
        · exact ⟨_, rfl, k13.mono (by decide)⟩
        · exact ⟨_, rfl, k14.mono (by decide)⟩
        · exact ⟨_, rfl, k15.mono (by decide)⟩
      refine ⟨J, p4, pre.trans ?_, tJ, hq⟩
      subst c9
      unfold spR
      simp! [isT, jT, l4, hr4, g12, g13, g14, g15, eJ]
    · by_cases c10 : w = 9
      · obtain ⟨M1, m1, n1⟩ := mulT (c := 49) (n := 61) (k := 61) (by decide) (by decide) (by decide) (by decide)
        obtain ⟨M2, m2, n2⟩ := mulT (c := 57) (n := 60) (k := 60) (by decide) (by decide) (by decide) (by decide)
        rw [← one_D] at m1
        rw [← nine_D] at m2
        obtain ⟨H1, g12, k12⟩ := (show Tx 1 (.str "!") by rw [cut_D]; exact Tx.lits ⟨by decide, by decide⟩).add n1 (by decide)
        obtain ⟨H2, g13, k13⟩ := k12.add (show Tx 2 (.str ",0") by rw [show D.str ",0" = tx [44, 48] by kernel_rfl]; exact Tx.lits ⟨by decide, by decide⟩) (by decide)
        obtain ⟨H3, g14, k14⟩ := (show Tx 4 (.str "!0,-") by rw [show D.str "!0,-" = tx [33, 48, 44, 45] by kernel_rfl]; exact Tx.lits ⟨by decide, by decide⟩).add n2 (by decide)
        obtain ⟨r5, hr5, r50, r51⟩ : ∃ r5 : Int, dMod (.int s) (.int 5) = some (.int r5) ∧ 0 ≤ r5 ∧ r5 < 5 := ⟨s % 5, zef (by decide), Int.emod_nonneg _ (by decide), Int.emod_lt_of_pos _ (by decide)⟩
        obtain ⟨J, eJ, tJ⟩ : ∃ J, atI [H2, H3, .str "!00,1", .str "!-0,1", .str "!1,2,3"] r5 = some J ∧ Tx 9000 J := by
          rcases (show r5 = 0 ∨ r5 = 1 ∨ r5 = 2 ∨ r5 = 3 ∨ r5 = 4 by omega) with rfl | rfl | rfl | rfl | rfl
          · exact ⟨_, rfl, k13.mono (by decide)⟩
          · exact ⟨_, rfl, k14.mono (by decide)⟩
          · exact ⟨_, rfl, by rw [show D.str "!00,1" = tx [33, 48, 48, 44, 49] by kernel_rfl]; exact Tx.lits ⟨by decide, by decide⟩⟩
          · exact ⟨_, rfl, by rw [show D.str "!-0,1" = tx [33, 45, 48, 44, 49] by kernel_rfl]; exact Tx.lits ⟨by decide, by decide⟩⟩
          · exact ⟨_, rfl, by rw [show D.str "!1,2,3" = tx [33, 49, 44, 50, 44, 51] by kernel_rfl]; exact Tx.lits ⟨by decide, by decide⟩⟩
        refine ⟨J, p4, pre.trans ?_, tJ, hq⟩
        subst c10
        unfold spR
        simp! [isT, jT, l4, hr4, m1, m2, g12, g13, g14, l5, hr5, eJ]
      · by_cases c12 : w < 12
        · refine ⟨B2, p4, pre.trans ?_, k9.mono (by decide), hq⟩
          unfold spR
          simp! [isT, jT, l4, hr4, c8, c9, c10, c12, g5, g6, g8, g9]
        · obtain ⟨J, eJ, tJ⟩ : ∃ J, atI [B3, B4] (w - 12) = some J ∧ Tx 9000 J := by
            rcases (show w = 12 ∨ w = 13 by omega) with rfl | rfl
            · exact ⟨_, rfl, k10.mono (by decide)⟩
            · exact ⟨_, rfl, k11.mono (by decide)⟩
          refine ⟨J, p4, pre.trans ?_, tJ, hq⟩
          unfold spR
          simp! [isT, jT, l4, hr4, c8, c9, c10, c12, g5, g6, g7, g8, g10, g11, eJ]

theorem xCallTA_eq {i : Nat} {g : Addr → DF} {tn : XV} {t : XA} {ρ ρ1 ρ2 : Rho} {d00 d0 d1 : D} {ds : List D} {x : D × D} (h0 : ownD i ρ = some d00) (h1 : tn ρ = .ok d1 ρ1) (h2 : t ρ1 = .ok ds ρ2) (h3 : ownD i ρ2 = some d0) (h4 : TAok g d0 d1 ds x) : xCallTA i g tn t ρ = .ok x.1 (ρ2.set i (.own x.2)) := by
  unfold xCallTA
  simp only [h0, h1, Res.bind, callTA1, h2, callTA2, h3, callTA3, pickTA_ok h4, resTA]
theorem turn_is (ns : List Int) (i : Nat) (x2 x3 x4 x5 x6 x7 x8 : Slot) : ∃ y2 y3 y4 y5 : Slot, notOwn (some y4) = true ∧ b_law_1 [.val (.fix (ns.map D.int)), .val (.int (i : Int)), x2, x3, x4, x5, x6, x7, x8] = .nx [.val (.fix (ns.map D.int)), .val (.int (i : Int)), y2, y3, y4, y5, x6, x7, x8] := by
  obtain ⟨p, hp, h0⟩ := pen_ex ns i
  obtain ⟨l, p1, e1, a1, b1, h1⟩ := draw_ex h0 (by decide) (m := 6) (by decide) (by decide)
  obtain ⟨V, l', p2, e2, v1, v2, v3, h2⟩ := words_ex 14 _ p1 l.toNat 0 (by decide) (by decide) (by decide) (by omega) h1 (by omega)
  have el : ((l.toNat : Nat) : Int) = l := by omega
  have vl : V.length ≤ 11 := by omega
  have wV : WLs 11 (.lst (V.map tx)) := ⟨V, rfl, v1, vl⟩
  obtain ⟨T, jT, TL1, rfl, oT, lT⟩ := wV.join (by decide)
  obtain ⟨S, p3, e3, ⟨oS, lS⟩, h3⟩ := spoilt_ex h2 (by omega) v1 v3 vl
  have r1 := right_is (l := S) lS oS
  have r2 := right_is (l := TL1) (by omega) oT
  have d1 := due_is (l := S) lS oS
  have d2 := due_is (l := TL1) (by omega) oT
  have isT : isStr (.str " ") = true := rfl
  have ta := xCallTA_eq (i := 2) (g := f_law_words) (tn := xOpL dLst (xCons (xCallB f_law_draw 2 (xCons (xC (.int 6)) xNil)) xNil)) (t := xCons (xC (.int 0)) xNil)
    (ρ := [.val (.fix (ns.map D.int)), .val (.int (i : Int)), .own p, x3, x4, x5, x6, x7, x8]) (ρ1 := [.val (.fix (ns.map D.int)), .val (.int (i : Int)), .own p1, x3, x4, x5, x6, x7, x8]) (ρ2 := [.val (.fix (ns.map D.int)), .val (.int (i : Int)), .own p1, x3, x4, x5, x6, x7, x8]) (d00 := p) (d0 := p1) (d1 := .lst [.int l]) (ds := [.int 0]) (x := (.lst (V.map tx), p2))
    rfl (by simp! [draw_is, e1]) (by simp! [zaa]) rfl (fun c => ⟨_, by have := e2 c; rw [el] at this; exact this⟩)
  have ta2 : xCallTA 2 f_law_words (xOpL dLst (xCons (xCallB f_law_draw 2 (xCons (xC (.int 6)) xNil)) xNil)) (xCons (xC (.int 0)) xNil) [.val (.fix (ns.map D.int)), .val (.int (i : Int)), .own p, x3, x4, x5, x6, x7, x8] = .ok (.lst (V.map tx)) [.val (.fix (ns.map D.int)), .val (.int (i : Int)), .own p2, x3, x4, x5, x6, x7, x8] := ta
  refine ⟨.own p3, .val (.lst (V.map tx)), .val (tx TL1), .val (tx S), rfl, ?_⟩
  clear ta wV
  generalize V.map tx = WV at *
  generalize dueD (due (sp1 32 S)) = DS at *
  generalize dueD (due (sp1 32 TL1)) = DT at *
  generalize tx S = XS1 at *
  generalize tx TL1 = XT at *
  unfold b_law_1
  generalize xCallTA 2 f_law_words (xOpL dLst (xCons (xCallB f_law_draw 2 (xCons (xC (.int 6)) xNil)) xNil)) (xCons (xC (.int 0)) xNil) = CTA at *
  simp! [pen_is, hp, ta2, isT, jT, e3, d1, r1, d2, r2]
/-! the full tree, the deep ones -/
def fullW : Nat → List (List Nat)
  | 0 => [[33, 45, 49, 44, 50]]
  | n + 1 => [[63, 48, 44, 49 + n]] ++ fullW n ++ [[63, 49, 44, 48], [43]] ++ fullW n
theorem full_is : f_law_full [.int 4] = .ok (.lst ((fullW 4).map tx)) [] := by kernel_rfl
theorem due_join {V : List (List Nat)} (hne : V ≠ []) (hf : V.all (fun w => !decide (32 ∈ w)) = true) : due (sp1 32 (TL.joinL [32] V)) = due V := by
  rw [joinL_sp1 hne fun w hw hm => by
    have := List.all_eq_true.mp hf w hw
    rw [decide_eq_true hm] at this
    cases this]
theorem join_all {V : List (List Nat)} {m : Nat} (hf : V.all (fun w => decide (w.length ≤ 130)) = true) (hl : V.length ≤ m) (hm : m ≤ 900) (h8 : (TL.joinL [32] V).length ≤ 9000) : dJoin (.str " ") (.lst (V.map tx)) = some (tx (TL.joinL [32] V)) := by
  have s := sum_130 V fun w hw => of_decide_eq_true (List.all_eq_true.mp hf w hw)
  have j := tx_join (a := [32]) (ls := V) (by rw [List.length_singleton]; omega)
  rw [← blank_D] at j
  exact j
theorem ok_join {V : List (List Nat)} (h : V.all (fun w => w.all fun c => decide (c < 256)) = true) : OkS (TL.joinL [32] V) := join_ok fun w hw => ok_all (List.all_eq_true.mp h w hw)
theorem rep_any (l : List (List Nat)) {M : Int} {m : Nat} (hM : (m : Int) = M) (hm : m ≤ 1000) (hl : l.length ≤ 2) : dRepL (.lst (l.map tx)) (.int M) = some (.lst (((List.replicate m l).flatten).map tx)) := by
  have ml : l.length * m ≤ 2 * 1000 := Nat.mul_le_mul hl hm
  refine (if_pos (e := (none : Option D)) (c := 0 ≤ M ∧ M ≤ 1000 ∧ (l.map tx).length * M.toNat ≤ sizeLine) ⟨by omega, by omega, ?_⟩ : _ = some (D.lst (List.replicate M.toNat (l.map tx)).flatten)).trans ?_
  · rw [List.length_map, show M.toNat = m by omega, sizeLine_eq]
    omega
  · rw [show M.toNat = m by omega, List.map_flatten, List.map_replicate]
def qW : List Nat := [63, 48, 44, 48]
def deep1 : List (List Nat) := (List.replicate 399 [qW]).flatten
def deep2 : List (List Nat) := (List.replicate 285 [qW]).flatten ++ (List.replicate 286 [[43]]).flatten
def deep3 : List (List Nat) := (List.replicate 285 [qW, [43]]).flatten ++ [[43]]
theorem deep_right {V : List (List Nat)} (h1 : V ≠ []) (h2 : V.all (fun w => !decide (32 ∈ w)) = true) (h4 : V.all (fun w => w.all fun c => decide (c < 256)) = true) (h5 : (TL.joinL [32] V).length ≤ 9000) (h6 : (due V).isNone = true) : f_law_right [tx (TL.joinL [32] V), .non] = .ok (.bl true) [] :=
  right_no h5 (ok_join h4) (by rw [due_join h1 h2]; exact h6)
theorem right1 : f_law_right [tx (TL.joinL [32] deep1), .non] = .ok (.bl true) [] := deep_right (by decide +kernel) (by decide +kernel) (by decide +kernel) (by decide +kernel) (by decide +kernel)
theorem right2 : f_law_right [tx (TL.joinL [32] deep2), .non] = .ok (.bl true) [] := deep_right (by decide +kernel) (by decide +kernel) (by decide +kernel) (by decide +kernel) (by decide +kernel)
theorem right3 : f_law_right [tx (TL.joinL [32] deep3), .non] = .ok (.bl true) [] := deep_right (by decide +kernel) (by decide +kernel) (by decide +kernel) (by decide +kernel) (by decide +kernel)
theorem joinF : dJoin (.str " ") (.lst ((fullW 4).map tx)) = some (tx (TL.joinL [32] (fullW 4))) := join_all (m := 900) (by decide +kernel) (by decide +kernel) (by decide) (by decide +kernel)
theorem join1 : dJoin (.str " ") (.lst (deep1.map tx)) = some (tx (TL.joinL [32] deep1)) := join_all (m := 900) (by decide +kernel) (by decide +kernel) (by decide) (by decide +kernel)
theorem join2 : dJoin (.str " ") (.lst (deep2.map tx)) = some (tx (TL.joinL [32] deep2)) := join_all (m := 900) (by decide +kernel) (by decide +kernel) (by decide) (by decide +kernel)
theorem join3' : dJoin (.str " ") (.lst (deep3.map tx)) = some (tx (TL.joinL [32] deep3)) := join_all (m := 900) (by decide +kernel) (by decide +kernel) (by decide) (by decide +kernel)
theorem fullD : ∃ d : D, f_law_due [tx (TL.joinL [32] (fullW 4))] = .ok d [] ∧ dIs d .non = some (.bl false) ∧ f_law_right [tx (TL.joinL [32] (fullW 4)), d] = .ok (.bl true) [] := by
  have h5 : (TL.joinL [32] (fullW 4)).length ≤ 9000 := by decide +kernel
  have ho : OkS (TL.joinL [32] (fullW 4)) := ok_join (by decide +kernel)
  refine ⟨_, due_is h5 ho, ?_, right_is h5 ho⟩
  rw [due_join (by decide +kernel) (by decide +kernel)]
  have hs : (due (fullW 4)).isSome = true := by decide +kernel
  obtain ⟨t, ht⟩ := Option.isSome_iff_exists.mp hs
  rw [ht]
  show dIs t.d .non = _
  cases t <;> rfl

def odds : List D := [.non, .int 0, .bl true, .lst [], .lst [.str "+"], .tup [.str "found"], .dicT false [], .str "", .str " ", .str "?0,0", .str "++", .str "?0,0 +", .str "!", .str "?", .str "+ +"]
theorem odds_ok : ∀ d ∈ odds, f_law_right [d, .non] = .ok (.bl true) [] := by
  unfold odds
  simp only [List.forall_mem_cons]
  exact ⟨odd1, odd2, odd3, odd4, odd5, odd6, odd7, odd8, odd9, odd10, odd11, odd12, odd13, odd14, odd15, fun d hd => absurd hd List.not_mem_nil⟩
theorem odds_run (x0 x1 x2 x3 x4 x5 x6 x7 x8 : Slot) : ∃ y6 : Slot, forRun (gSet 6) b_law_2 odds [x0, x1, x2, x3, x4, x5, x6, x7, x8] = .nx [x0, x1, x2, x3, x4, x5, y6, x7, x8] := by
  obtain ⟨ρ', e, y6, rfl⟩ := forRun_inv (g := gSet 6) (body := b_law_2) (fun _ ρ => ∃ y6 : Slot, ρ = [x0, x1, x2, x3, x4, x5, y6, x7, x8]) odds 0 [x0, x1, x2, x3, x4, x5, x6, x7, x8] ⟨_, rfl⟩ (fun i d ρ hd hρ => by
    obtain ⟨y6, rfl⟩ := hρ
    have e := odds_ok d (List.mem_of_getElem? hd)
    refine ⟨_, rfl, [x0, x1, x2, x3, x4, x5, .val d, x7, x8], .inl ?_, _, rfl⟩
    show b_law_2 [x0, x1, x2, x3, x4, x5, .val d, x7, x8] = _
    unfold b_law_2
    simp! [e])
  exact ⟨y6, e⟩
theorem l15 : dLst odds = some (.lst odds) := by kernel_rfl
theorem q_D : D.str "?0,0" = tx qW := by kernel_rfl
theorem rp1 : dRepL (.lst [.str "?0,0"]) (.int 399) = some (.lst (deep1.map tx)) := by
  rw [q_D]
  exact rep_any [qW] (m := 399) (by decide) (by decide) (by decide)
theorem rp2 : dRepL (.lst [.str "?0,0"]) (.int 285) = some (.lst (((List.replicate 285 [qW]).flatten).map tx)) := by
  rw [q_D]
  exact rep_any [qW] (m := 285) (by decide) (by decide) (by decide)
theorem rp3 : dRepL (.lst [.str "+"]) (.int 286) = some (.lst (((List.replicate 286 [[43]]).flatten).map tx)) := by
  rw [plus_D]
  exact rep_any [[43]] (m := 286) (by decide) (by decide) (by decide)
theorem rp4 : dRepL (.lst [.str "?0,0", .str "+"]) (.int 285) = some (.lst (((List.replicate 285 [qW, [43]]).flatten).map tx)) := by
  rw [q_D, plus_D]
  exact rep_any [qW, [43]] (m := 285) (by decide) (by decide) (by decide)
theorem ad2 : dAdd (.lst (((List.replicate 285 [qW]).flatten).map tx)) (.lst (((List.replicate 286 [[43]]).flatten).map tx)) = some (.lst (deep2.map tx)) := by
  unfold deep2
  rw [List.map_append]
  refine zfb ?_
  rw [List.length_map, List.length_map, flat_rep, flat_rep]
  exact szn (by decide)
theorem ad3 : dAdd (.lst (((List.replicate 285 [qW, [43]]).flatten).map tx)) (.lst [.str "+"]) = some (.lst (deep3.map tx)) := by
  unfold deep3
  rw [List.map_append, plus_D]
  refine zfb ?_
  rw [List.length_map, flat_rep]
  exact szn (by decide)
theorem main (ns : List Int) (hl : ns.length ≤ 63) : f_law [.fix (ns.map D.int)] = .ok (.bl true) [] := by
  obtain ⟨ρ', e, s1, s2, s3, s4, s5, n4, rfl⟩ := for_range_inv (g := gSet 1) (body := b_law_1) (lo := 0) (n := 6)
    (fun i ρ => ∃ s1 s2 s3 s4 s5, notOwn (some s4) = true ∧ ρ = [.val (.fix (ns.map D.int)), s1, s2, s3, s4, s5, .emp, .emp, .emp]) (ρ := [.val (.fix (ns.map D.int)), .emp, .emp, .emp, .emp, .emp, .emp, .emp, .emp]) ⟨_, _, _, _, _, rfl, rfl⟩ (fun i ρ hi hρ => by
      obtain ⟨s1, s2, s3, s4, s5, n4, rfl⟩ := hρ
      refine ⟨_, rfl, ?_⟩
      obtain ⟨y2, y3, y4, y5, n4', e⟩ := turn_is ns i s2 s3 s4 s5 .emp .emp .emp
      rw [Int.zero_add]
      exact ⟨_, .inl e, _, _, _, _, _, n4', rfl⟩)
  obtain ⟨y6, e2⟩ := odds_run (.val (.fix (ns.map D.int))) s1 s2 s3 s4 s5 .emp .emp .emp
  obtain ⟨FD, f1, f2, f3⟩ := fullD
  have f0 := full_is
  have jF := joinF
  have j1 := join1
  have j2 := join2
  have j3 := join3'
  have w1 := right1
  have w2 := right2
  have w3 := right3
  have p1 := rp1
  have p2 := rp2
  have p3 := rp3
  have p4 := rp4
  have a2 := ad2
  have a3 := ad3
  have l15 := l15
  have isT : isStr (.str " ") = true := rfl
  have d1 : ∀ x : D, dLst [x] = some (.lst [x]) := fun _ => by kernel_rfl
  have d2 : ∀ x y : D, dLst [x, y] = some (.lst [x, y]) := fun _ _ => by kernel_rfl
  have d3 : ∀ x y z : D, dLst [x, y, z] = some (.lst [x, y, z]) := fun _ _ _ => by kernel_rfl
  generalize (fullW 4).map tx = XF at *
  generalize tx (TL.joinL [32] (fullW 4)) = TF at *
  generalize deep1.map tx = X1 at *
  generalize deep2.map tx = X2 at *
  generalize deep3.map tx = X3 at *
  generalize tx (TL.joinL [32] deep1) = T1 at *
  generalize tx (TL.joinL [32] deep2) = T2 at *
  generalize tx (TL.joinL [32] deep3) = T3' at *
  generalize ((List.replicate 285 [qW]).flatten).map tx = Y2 at *
  generalize ((List.replicate 286 [[43]]).flatten).map tx = Y3 at *
  generalize ((List.replicate 285 [qW, [43]]).flatten).map tx = Y4 at *
  have run := lcMap (g := gSet 4) (tt := xYes) (te := xCall f_law_right (xCons (xVar 4) (xCons (xC .non) xNil))) (vs := [4]) (ρ := [.val (.fix (ns.map D.int)), s1, s2, s3, s4, s5, y6, .val TF, .val (.lst [T1, T2, T3'])]) (e1 := fun d : D => d) (fun d : D => d) (fun _ : D => D.bl true) (l := [T1, T2, T3']) (fun d hd => by
    simp only [List.mem_cons, List.not_mem_nil, or_false] at hd
    rcases hd with rfl | rfl | rfl
    · simp! [w1]
    · simp! [w2]
    · simp! [w3])
  simp only [List.map_cons, List.map_nil] at run
  have al : dAll [.lst [.bl true, .bl true, .bl true]] = some (.bl true) := rfl
  unfold odds at l15 e2
  have z3 : ([T1, T2, T3'] : List D).length ≤ sizeLine := szn (show 3 ≤ 1000 by decide)
  unfold f_law b_law
  simp! [e, d1, sz_0, sz_1, l15, e2, f0, isT, jF, f1, f2, f3, p1, j1, p2, p3, a2, j2, p4, d2, a3, j3, d3, n4, run, al]


theorem all_mk {l : PySem.W.OpenLaw} {w : World} {K : PySem.W.Frag} {h : Heap} {mg : Str → Option Value} {fa : Addr} (X : K.In h) (G : h.Ns mainGlobals mg) (hfa : mg "law" = some (.ref fa))
    {f0 : Addr} {od0 an0 : Option Addr} {sl0 : Array (Option Value)} {oc0 kV0 dc0 pm0 cd0 ct0 : Value}
    {f1 : Addr} {od1 an1 : Option Addr} {sl1 : Array (Option Value)} {oc1 kV1 dc1 pm1 cd1 ct1 : Value}
    {f2 : Addr} {od2 an2 : Option Addr} {sl2 : Array (Option Value)} {oc2 kV2 dc2 pm2 cd2 ct2 : Value}
    {f3 : Addr} {od3 an3 : Option Addr} {sl3 : Array (Option Value)} {oc3 kV3 dc3 pm3 cd3 ct3 : Value}
    {f4 : Addr} {od4 an4 : Option Addr} {sl4 : Array (Option Value)} {oc4 kV4 dc4 pm4 cd4 ct4 : Value}
    {f5 : Addr} {od5 an5 : Option Addr} {sl5 : Array (Option Value)} {oc5 kV5 dc5 pm5 cd5 ct5 : Value}
    {f6 : Addr} {od6 an6 : Option Addr} {sl6 : Array (Option Value)} {oc6 kV6 dc6 pm6 cd6 ct6 : Value}
    {f7 : Addr} {od7 an7 : Option Addr} {sl7 : Array (Option Value)} {oc7 kV7 dc7 pm7 cd7 ct7 : Value}
    {f8 : Addr} {od8 an8 : Option Addr} {sl8 : Array (Option Value)} {oc8 kV8 dc8 pm8 cd8 ct8 : Value}
    {f9 : Addr} {od9 an9 : Option Addr} {sl9 : Array (Option Value)} {oc9 kV9 dc9 pm9 cd9 ct9 : Value}
    {f10 : Addr} {od10 an10 : Option Addr} {sl10 : Array (Option Value)} {oc10 kV10 dc10 pm10 cd10 ct10 : Value}
    {f11 : Addr} {od11 an11 : Option Addr} {sl11 : Array (Option Value)} {oc11 kV11 dc11 pm11 cd11 ct11 : Value}
    {f12 : Addr} {od12 an12 : Option Addr} {sl12 : Array (Option Value)} {oc12 kV12 dc12 pm12 cd12 ct12 : Value}
    {f13 : Addr} {od13 an13 : Option Addr} {sl13 : Array (Option Value)} {oc13 kV13 dc13 pm13 cd13 ct13 : Value}
    {f14 : Addr} {od14 an14 : Option Addr} {sl14 : Array (Option Value)} {oc14 kV14 dc14 pm14 cd14 ct14 : Value}
    {f15 : Addr} {od15 an15 : Option Addr} {sl15 : Array (Option Value)} {oc15 kV15 dc15 pm15 cd15 ct15 : Value}
    {c_NoText : Addr}
    {c_CellError : Addr}
    {c_NoName : Addr}
    {c_NoRule : Addr}
    {t_MOST_FIGURES : Tok}
    {t_DEEPEST : Tok}
    {t_FIGURES : Tok}
    (a0 : PySem.W.nsIn K mainGlobals "whole_in" = some (some (.ref f0)))
    (l0 : K.lookup f0 = some ⟨oc0, od0, .func (PySem.W.fnOf "whole_in" "whole_in" (defArgs s_whole_in) (defBody s_whole_in) (defScope s_whole_in) .none kV0 dc0 pm0 an0 cd0 ct0), sl0⟩)
    (c0 : PySem.W.codeIn K cd0 "whole_in" = true)
    (k0 : PySem.W.keepIn K (.ref f0) = true)
    (a1 : PySem.W.nsIn K mainGlobals "cell_in" = some (some (.ref f1)))
    (l1 : K.lookup f1 = some ⟨oc1, od1, .func (PySem.W.fnOf "cell_in" "cell_in" (defArgs s_cell_in) (defBody s_cell_in) (defScope s_cell_in) .none kV1 dc1 pm1 an1 cd1 ct1), sl1⟩)
    (c1 : PySem.W.codeIn K cd1 "cell_in" = true)
    (k1 : PySem.W.keepIn K (.ref f1) = true)
    (a2 : PySem.W.nsIn K mainGlobals "tree_from" = some (some (.ref f2)))
    (l2 : K.lookup f2 = some ⟨oc2, od2, .func (PySem.W.fnOf "tree_from" "tree_from" (defArgs s_tree_from) (defBody s_tree_from) (defScope s_tree_from) .none kV2 dc2 pm2 an2 cd2 ct2), sl2⟩)
    (c2 : PySem.W.codeIn K cd2 "tree_from" = true)
    (k2 : PySem.W.keepIn K (.ref f2) = true)
    (a3 : PySem.W.nsIn K mainGlobals "read_tree" = some (some (.ref f3)))
    (l3 : K.lookup f3 = some ⟨oc3, od3, .func (PySem.W.fnOf "read_tree" "read_tree" (defArgs s_read_tree) (defBody s_read_tree) (defScope s_read_tree) .none kV3 dc3 pm3 an3 cd3 ct3), sl3⟩)
    (c3 : PySem.W.codeIn K cd3 "read_tree" = true)
    (k3 : PySem.W.keepIn K (.ref f3) = true)
    (a4 : PySem.W.nsIn K mainGlobals "_law_pen" = some (some (.ref f4)))
    (l4 : K.lookup f4 = some ⟨oc4, od4, .func (PySem.W.fnOf "_law_pen" "_law_pen" (defArgs s_law_pen) (defBody s_law_pen) (defScope s_law_pen) .none kV4 dc4 pm4 an4 cd4 ct4), sl4⟩)
    (c4 : PySem.W.codeIn K cd4 "_law_pen" = true)
    (k4 : PySem.W.keepIn K (.ref f4) = true)
    (a5 : PySem.W.nsIn K mainGlobals "_law_draw" = some (some (.ref f5)))
    (l5 : K.lookup f5 = some ⟨oc5, od5, .func (PySem.W.fnOf "_law_draw" "_law_draw" (defArgs s_law_draw) (defBody s_law_draw) (defScope s_law_draw) .none kV5 dc5 pm5 an5 cd5 ct5), sl5⟩)
    (c5 : PySem.W.codeIn K cd5 "_law_draw" = true)
    (k5 : PySem.W.keepIn K (.ref f5) = true)
    (a6 : PySem.W.nsIn K mainGlobals "_law_number" = some (some (.ref f6)))
    (l6 : K.lookup f6 = some ⟨oc6, od6, .func (PySem.W.fnOf "_law_number" "_law_number" (defArgs s_law_number) (defBody s_law_number) (defScope s_law_number) .none kV6 dc6 pm6 an6 cd6 ct6), sl6⟩)
    (c6 : PySem.W.codeIn K cd6 "_law_number" = true)
    (k6 : PySem.W.keepIn K (.ref f6) = true)
    (a7 : PySem.W.nsIn K mainGlobals "_law_words" = some (some (.ref f7)))
    (l7 : K.lookup f7 = some ⟨oc7, od7, .func (PySem.W.fnOf "_law_words" "_law_words" (defArgs s_law_words) (defBody s_law_words) (defScope s_law_words) .none kV7 dc7 pm7 an7 cd7 ct7), sl7⟩)
    (c7 : PySem.W.codeIn K cd7 "_law_words" = true)
    (k7 : PySem.W.keepIn K (.ref f7) = true)
    (a8 : PySem.W.nsIn K mainGlobals "_law_is_number" = some (some (.ref f8)))
    (l8 : K.lookup f8 = some ⟨oc8, od8, .func (PySem.W.fnOf "_law_is_number" "_law_is_number" (defArgs s_law_is_number) (defBody s_law_is_number) (defScope s_law_is_number) .none kV8 dc8 pm8 an8 cd8 ct8), sl8⟩)
    (c8 : PySem.W.codeIn K cd8 "_law_is_number" = true)
    (k8 : PySem.W.keepIn K (.ref f8) = true)
    (a9 : PySem.W.nsIn K mainGlobals "_law_is_cell" = some (some (.ref f9)))
    (l9 : K.lookup f9 = some ⟨oc9, od9, .func (PySem.W.fnOf "_law_is_cell" "_law_is_cell" (defArgs s_law_is_cell) (defBody s_law_is_cell) (defScope s_law_is_cell) .none kV9 dc9 pm9 an9 cd9 ct9), sl9⟩)
    (c9 : PySem.W.codeIn K cd9 "_law_is_cell" = true)
    (k9 : PySem.W.keepIn K (.ref f9) = true)
    (a10 : PySem.W.nsIn K mainGlobals "_law_cell" = some (some (.ref f10)))
    (l10 : K.lookup f10 = some ⟨oc10, od10, .func (PySem.W.fnOf "_law_cell" "_law_cell" (defArgs s_law_cell) (defBody s_law_cell) (defScope s_law_cell) .none kV10 dc10 pm10 an10 cd10 ct10), sl10⟩)
    (c10 : PySem.W.codeIn K cd10 "_law_cell" = true)
    (k10 : PySem.W.keepIn K (.ref f10) = true)
    (a11 : PySem.W.nsIn K mainGlobals "_law_due" = some (some (.ref f11)))
    (l11 : K.lookup f11 = some ⟨oc11, od11, .func (PySem.W.fnOf "_law_due" "_law_due" (defArgs s_law_due) (defBody s_law_due) (defScope s_law_due) .none kV11 dc11 pm11 an11 cd11 ct11), sl11⟩)
    (c11 : PySem.W.codeIn K cd11 "_law_due" = true)
    (k11 : PySem.W.keepIn K (.ref f11) = true)
    (a12 : PySem.W.nsIn K mainGlobals "_law_spoilt" = some (some (.ref f12)))
    (l12 : K.lookup f12 = some ⟨oc12, od12, .func (PySem.W.fnOf "_law_spoilt" "_law_spoilt" (defArgs s_law_spoilt) (defBody s_law_spoilt) (defScope s_law_spoilt) .none kV12 dc12 pm12 an12 cd12 ct12), sl12⟩)
    (c12 : PySem.W.codeIn K cd12 "_law_spoilt" = true)
    (k12 : PySem.W.keepIn K (.ref f12) = true)
    (a13 : PySem.W.nsIn K mainGlobals "_law_full" = some (some (.ref f13)))
    (l13 : K.lookup f13 = some ⟨oc13, od13, .func (PySem.W.fnOf "_law_full" "_law_full" (defArgs s_law_full) (defBody s_law_full) (defScope s_law_full) .none kV13 dc13 pm13 an13 cd13 ct13), sl13⟩)
    (c13 : PySem.W.codeIn K cd13 "_law_full" = true)
    (k13 : PySem.W.keepIn K (.ref f13) = true)
    (a14 : PySem.W.nsIn K mainGlobals "_law_right" = some (some (.ref f14)))
    (l14 : K.lookup f14 = some ⟨oc14, od14, .func (PySem.W.fnOf "_law_right" "_law_right" (defArgs s_law_right) (defBody s_law_right) (defScope s_law_right) .none kV14 dc14 pm14 an14 cd14 ct14), sl14⟩)
    (c14 : PySem.W.codeIn K cd14 "_law_right" = true)
    (k14 : PySem.W.keepIn K (.ref f14) = true)
    (a15 : PySem.W.nsIn K mainGlobals "law" = some (some (.ref f15)))
    (l15 : K.lookup f15 = some ⟨oc15, od15, .func (PySem.W.fnOf "law" "law" (defArgs s_law) (defBody s_law) (defScope s_law) .none kV15 dc15 pm15 an15 cd15 ct15), sl15⟩)
    (c15 : PySem.W.codeIn K cd15 "law" = true)
    (k15 : PySem.W.keepIn K (.ref f15) = true)
    (z0 : PySem.W.nsIn K mainGlobals "ValueError" = some none)
    (z1 : PySem.W.nsIn K mainGlobals "all" = some none)
    (z2 : PySem.W.nsIn K mainGlobals "int" = some none)
    (z3 : PySem.W.nsIn K mainGlobals "isinstance" = some none)
    (z4 : PySem.W.nsIn K mainGlobals "len" = some none)
    (z5 : PySem.W.nsIn K mainGlobals "max" = some none)
    (z6 : PySem.W.nsIn K mainGlobals "range" = some none)
    (z7 : PySem.W.nsIn K mainGlobals "str" = some none)
    (n_MOST_FIGURES : PySem.W.nsIn K mainGlobals "MOST_FIGURES" = some (some (.int 60 t_MOST_FIGURES)))
    (n_DEEPEST : PySem.W.nsIn K mainGlobals "DEEPEST" = some (some (.int 9 t_DEEPEST)))
    (n_FIGURES : PySem.W.nsIn K mainGlobals "FIGURES" = some (some (.str "0123456789" t_FIGURES)))
    (g_NoText : PySem.W.nsIn K mainGlobals "NoText" = some (some (.ref c_NoText)))
    (i_NoText : PySem.W.isClsIn K c_NoText = true)
    (y_NoText : PySem.W.typeIn K (.ref c_NoText) = some (.type "type"))
    (s_NoText : PySem.W.subIn K (.ref c_NoText) (.ref c_NoText) = some true)
    (b_NoText : PySem.W.subIn K (.ref c_NoText) (.type "BaseException") = some true)
    (g_CellError : PySem.W.nsIn K mainGlobals "CellError" = some (some (.ref c_CellError)))
    (i_CellError : PySem.W.isClsIn K c_CellError = true)
    (y_CellError : PySem.W.typeIn K (.ref c_CellError) = some (.type "type"))
    (s_CellError : PySem.W.subIn K (.ref c_CellError) (.ref c_CellError) = some true)
    (b_CellError : PySem.W.subIn K (.ref c_CellError) (.type "BaseException") = some true)
    (g_NoName : PySem.W.nsIn K mainGlobals "NoName" = some (some (.ref c_NoName)))
    (i_NoName : PySem.W.isClsIn K c_NoName = true)
    (y_NoName : PySem.W.typeIn K (.ref c_NoName) = some (.type "type"))
    (s_NoName : PySem.W.subIn K (.ref c_NoName) (.ref c_NoName) = some true)
    (b_NoName : PySem.W.subIn K (.ref c_NoName) (.type "BaseException") = some true)
    (g_NoRule : PySem.W.nsIn K mainGlobals "NoRule" = some (some (.ref c_NoRule)))
    (i_NoRule : PySem.W.isClsIn K c_NoRule = true)
    (y_NoRule : PySem.W.typeIn K (.ref c_NoRule) = some (.type "type"))
    (s_NoRule : PySem.W.subIn K (.ref c_NoRule) (.ref c_NoRule) = some true)
    (b_NoRule : PySem.W.subIn K (.ref c_NoRule) (.type "BaseException") = some true)
    (x_NoText : PySem.W.excIn K c_NoText [.type "ValueError", .type "Exception", .type "BaseException", .type "object"] "ValueError.__new__" = true)
    (k_NoText : PySem.W.keepIn K (.ref c_NoText) = true)
    (e1_NoText : PySem.W.findIn K (.ref c_NoText) "__getattribute__" = some (some (.builtin "BaseException.__getattribute__")))
    (e2_NoText : PySem.W.findIn K (.ref c_NoText) "__getattr__" = some none)
    (e4_NoText : PySem.W.hasDictIn K c_NoText = true)
    (e5_NoText : PySem.W.findIn K (.ref c_NoText) "__class__" = some (some (.builtin "object.__class__")))
    (e8_NoText : PySem.W.mroIn K c_NoText (.type "object") = some true)
    (e6 : PySem.W.specialIn K (.builtin "object.__class__") "__get__" = some (some (.builtin "getset_descriptor.__get__")))
    (e7 : PySem.W.takesIn K (.builtin "object.__class__") = some true)
    (u_NoName : PySem.W.subIn K (.type "NoneType") (.ref c_NoName) = some false)
    (u_NoRule : PySem.W.subIn K (.type "NoneType") (.ref c_NoRule) = some false)
    (u_NoText : PySem.W.subIn K (.type "NoneType") (.ref c_NoText) = some false)
    (p_NoText_NoText : PySem.W.subIn K (.ref c_NoText) (.ref c_NoText) = some true)
    (p_NoText_CellError : PySem.W.subIn K (.ref c_NoText) (.ref c_CellError) = some true)
    (p_NoText_NoName : PySem.W.subIn K (.ref c_NoText) (.ref c_NoName) = some false)
    (p_NoText_NoRule : PySem.W.subIn K (.ref c_NoText) (.ref c_NoRule) = some false)
    (p_NoText_ValueError : PySem.W.subIn K (.ref c_NoText) (.type "ValueError") = some true)
    : ∃ fd : FuncData, (∀ (s : Shared) (v : Value), BindsTo s fd ⟨[v], []⟩ [("_law_script", v)]) ∧ ∀ base : Heap, K.In base → base.Ns mainGlobals mg → FnOk l.prog w K mg base (L2.CX l.prog w) 19 fa fd ["_law_script"] (spA K f_law) := by
  have e := hfa.symm.trans (PySem.W.mg_of X G a15)
  cases e
  have F0 := fun_mk (st := s_whole_in) l0 c0 k0
  have B0 := F0.binds (ps := ["text"]) fun _ _ _ _ _ _ us hl => match us, hl with | [_], _ => rfl
  have F1 := fun_mk (st := s_cell_in) l1 c1 k1
  have B1 := F1.binds (ps := ["text"]) fun _ _ _ _ _ _ us hl => match us, hl with | [_], _ => rfl
  have F2 := fun_mk (st := s_tree_from) l2 c2 k2
  have B2 := F2.binds (ps := ["words", "at", "deep"]) fun _ _ _ _ _ _ us hl => match us, hl with | [_, _, _], _ => rfl
  have F3 := fun_mk (st := s_read_tree) l3 c3 k3
  have B3 := F3.binds (ps := ["text"]) fun _ _ _ _ _ _ us hl => match us, hl with | [_], _ => rfl
  have F4 := fun_mk (st := s_law_pen) l4 c4 k4
  have B4 := F4.binds (ps := ["_law_script", "_law_k"]) fun _ _ _ _ _ _ us hl => match us, hl with | [_, _], _ => rfl
  have F5 := fun_mk (st := s_law_draw) l5 c5 k5
  have B5 := F5.binds (ps := ["_law_pen_here", "_law_many"]) fun _ _ _ _ _ _ us hl => match us, hl with | [_, _], _ => rfl
  have F6 := fun_mk (st := s_law_number) l6 c6 k6
  have B6 := F6.binds (ps := ["_law_pen_here"]) fun _ _ _ _ _ _ us hl => match us, hl with | [_], _ => rfl
  have F7 := fun_mk (st := s_law_words) l7 c7 k7
  have B7 := F7.binds (ps := ["_law_pen_here", "_law_left", "_law_deep"]) fun _ _ _ _ _ _ us hl => match us, hl with | [_, _, _], _ => rfl
  have F8 := fun_mk (st := s_law_is_number) l8 c8 k8
  have B8 := F8.binds (ps := ["_law_text"]) fun _ _ _ _ _ _ us hl => match us, hl with | [_], _ => rfl
  have F9 := fun_mk (st := s_law_is_cell) l9 c9 k9
  have B9 := F9.binds (ps := ["_law_text"]) fun _ _ _ _ _ _ us hl => match us, hl with | [_], _ => rfl
  have F10 := fun_mk (st := s_law_cell) l10 c10 k10
  have B10 := F10.binds (ps := ["_law_text"]) fun _ _ _ _ _ _ us hl => match us, hl with | [_], _ => rfl
  have F11 := fun_mk (st := s_law_due) l11 c11 k11
  have B11 := F11.binds (ps := ["_law_text"]) fun _ _ _ _ _ _ us hl => match us, hl with | [_], _ => rfl
  have F12 := fun_mk (st := s_law_spoilt) l12 c12 k12
  have B12 := F12.binds (ps := ["_law_pen_here", "_law_words_here"]) fun _ _ _ _ _ _ us hl => match us, hl with | [_, _], _ => rfl
  have F13 := fun_mk (st := s_law_full) l13 c13 k13
  have B13 := F13.binds (ps := ["_law_deep"]) fun _ _ _ _ _ _ us hl => match us, hl with | [_], _ => rfl
  have F14 := fun_mk (st := s_law_right) l14 c14 k14
  have B14 := F14.binds (ps := ["_law_text", "_law_due_here"]) fun _ _ _ _ _ _ us hl => match us, hl with | [_, _], _ => rfl
  have F15 := fun_mk (st := s_law) l15 c15 k15
  have B15 := F15.binds (ps := ["_law_script"]) fun _ _ _ _ _ _ us hl => match us, hl with | [_], _ => rfl
  exact ⟨_, fun s v => .of_eq rfl, fun base _ _ => fnOk_A (cv := fun q => if q = "NoText" then .ref c_NoText else .none) (ok_law (A := ⟨f0, _, f1, _, f2, _, f3, _, f4, _, f5, _, f6, _, f7, _, f8, _, f9, _, f10, _, f11, _, f12, _, f13, _, f14, _, fa, _, c_NoText, c_CellError, c_NoName, c_NoRule⟩) ⟨F0, B0, PySem.W.mg_of X G a0, F1, B1, PySem.W.mg_of X G a1, F2, B2, PySem.W.mg_of X G a2, F3, B3, PySem.W.mg_of X G a3, F4, B4, PySem.W.mg_of X G a4, F5, B5, PySem.W.mg_of X G a5, F6, B6, PySem.W.mg_of X G a6, F7, B7, PySem.W.mg_of X G a7, F8, B8, PySem.W.mg_of X G a8, F9, B9, PySem.W.mg_of X G a9, F10, B10, PySem.W.mg_of X G a10, F11, B11, PySem.W.mg_of X G a11, F12, B12, PySem.W.mg_of X G a12, F13, B13, PySem.W.mg_of X G a13, F14, B14, PySem.W.mg_of X G a14, F15, B15, PySem.W.mg_of X G a15, g_NoText, u_NoName, u_NoRule, u_NoText, PySem.W.mg_none_of X G z0, PySem.W.mg_none_of X G z1, PySem.W.mg_none_of X G z2, PySem.W.mg_none_of X G z3, PySem.W.mg_none_of X G z4, PySem.W.mg_none_of X G z5, PySem.W.mg_none_of X G z6, PySem.W.mg_none_of X G z7, ⟨_, PySem.W.mg_of X G n_MOST_FIGURES⟩, ⟨_, PySem.W.mg_of X G n_DEEPEST⟩, ⟨_, PySem.W.mg_of X G n_FIGURES⟩, PySem.W.mg_of X G g_NoText, ⟨i_NoText, y_NoText, s_NoText⟩, PySem.W.mg_of X G g_CellError, ⟨i_CellError, y_CellError, s_CellError⟩, PySem.W.mg_of X G g_NoName, ⟨i_NoName, y_NoName, s_NoName⟩, PySem.W.mg_of X G g_NoRule, ⟨i_NoRule, y_NoRule, s_NoRule⟩, b_CellError, p_NoText_NoText, p_NoText_CellError, p_NoText_NoName, p_NoText_NoRule, p_NoText_ValueError, ⟨x_NoText, k_NoText, b_NoText, y_NoText⟩, (by simp), ⟨e1_NoText, e2_NoText, b_NoText, e4_NoText, e5_NoText, e6, e7, e8_NoText⟩⟩)⟩
end K69
open PySem PySem.W PyProof.Rows
set_option maxHeartbeats 0 in
theorem PySem.Challenge.cw_cellships_k69_no_tree_texts_holds : PySem.Challenge.rw_cellships_k69_no_tree_texts.Holds := by
  w_on; o_law; k_head; (case hw => w_witness2)
  k_fill
  refine L2.walk_of (l := PySem.Challenge.rw_cellships_k69_no_tree_texts) (n := 63) (k := 19) (x := "_law_script") (CX := fun w => L2.CX PySem.Challenge.rw_cellships_k69_no_tree_texts.prog w) (sp := fun w => G.spA _ K69.f_law) rfl (by decide) rfl ⟨rfl, by decide, by decide⟩ (fun w h Y => PySem.W.kIn_of Y) ?F (fun w H a ns hl _ hS => G.law_spA hS (K69.main ns hl)) (fun w H s e s' h => G.law_cx (P := PySem.Challenge.rw_cellships_k69_no_tree_texts.prog) h)
  case F =>
    intro w mg fa h KX G hmg
    refine' K69.all_mk KX G hmg ?a0 ?l0 ?c0 ?k0 ?a1 ?l1 ?c1 ?k1 ?a2 ?l2 ?c2 ?k2 ?a3 ?l3 ?c3 ?k3 ?a4 ?l4 ?c4 ?k4 ?a5 ?l5 ?c5 ?k5 ?a6 ?l6 ?c6 ?k6 ?a7 ?l7 ?c7 ?k7 ?a8 ?l8 ?c8 ?k8 ?a9 ?l9 ?c9 ?k9 ?a10 ?l10 ?c10 ?k10 ?a11 ?l11 ?c11 ?k11 ?a12 ?l12 ?c12 ?k12 ?a13 ?l13 ?c13 ?k13 ?a14 ?l14 ?c14 ?k14 ?a15 ?l15 ?c15 ?k15 ?z0 ?z1 ?z2 ?z3 ?z4 ?z5 ?z6 ?z7 ?n_MOST_FIGURES ?n_DEEPEST ?n_FIGURES ?g_NoText ?i_NoText ?y_NoText ?s_NoText ?b_NoText ?g_CellError ?i_CellError ?y_CellError ?s_CellError ?b_CellError ?g_NoName ?i_NoName ?y_NoName ?s_NoName ?b_NoName ?g_NoRule ?i_NoRule ?y_NoRule ?s_NoRule ?b_NoRule ?x_NoText ?k_NoText ?e1_NoText ?e2_NoText ?e4_NoText ?e5_NoText ?e8_NoText ?e6 ?e7 ?u_NoName ?u_NoRule ?u_NoText ?p_NoText_NoText ?p_NoText_CellError ?p_NoText_NoName ?p_NoText_NoRule ?p_NoText_ValueError
    (case a0 => k_is); (case l0 => k_is); (case c0 => k_is); (case k0 => k_is); (case a1 => k_is); (case l1 => k_is); (case c1 => k_is); (case k1 => k_is); (case a2 => k_is); (case l2 => k_is); (case c2 => k_is); (case k2 => k_is); (case a3 => k_is); (case l3 => k_is); (case c3 => k_is); (case k3 => k_is); (case a4 => k_is); (case l4 => k_is); (case c4 => k_is); (case k4 => k_is); (case a5 => k_is); (case l5 => k_is); (case c5 => k_is); (case k5 => k_is); (case a6 => k_is); (case l6 => k_is); (case c6 => k_is); (case k6 => k_is); (case a7 => k_is); (case l7 => k_is); (case c7 => k_is); (case k7 => k_is); (case a8 => k_is); (case l8 => k_is); (case c8 => k_is); (case k8 => k_is); (case a9 => k_is); (case l9 => k_is); (case c9 => k_is); (case k9 => k_is); (case a10 => k_is); (case l10 => k_is); (case c10 => k_is); (case k10 => k_is); (case a11 => k_is); (case l11 => k_is); (case c11 => k_is); (case k11 => k_is); (case a12 => k_is); (case l12 => k_is); (case c12 => k_is); (case k12 => k_is); (case a13 => k_is); (case l13 => k_is); (case c13 => k_is); (case k13 => k_is); (case a14 => k_is); (case l14 => k_is); (case c14 => k_is); (case k14 => k_is); (case a15 => k_is); (case l15 => k_is); (case c15 => k_is); (case k15 => k_is); (case z0 => k_is); (case z1 => k_is); (case z2 => k_is); (case z3 => k_is); (case z4 => k_is); (case z5 => k_is); (case z6 => k_is); (case z7 => k_is); (case n_MOST_FIGURES => k_is); (case n_DEEPEST => k_is); (case n_FIGURES => k_is); (case g_NoText => k_is); (case i_NoText => k_is); (case y_NoText => k_is); (case s_NoText => first | rfl | k_is); (case b_NoText => k_is); (case g_CellError => k_is); (case i_CellError => k_is); (case y_CellError => k_is); (case s_CellError => first | rfl | k_is); (case b_CellError => k_is); (case g_NoName => k_is); (case i_NoName => k_is); (case y_NoName => k_is); (case s_NoName => first | rfl | k_is); (case b_NoName => k_is); (case g_NoRule => k_is); (case i_NoRule => k_is); (case y_NoRule => k_is); (case s_NoRule => first | rfl | k_is); (case b_NoRule => k_is); (case x_NoText => k_exc); (case k_NoText => k_is); (case e1_NoText => k_is); (case e2_NoText => k_is); (case e4_NoText => k_is); (case e5_NoText => k_is); (case e8_NoText => k_is); (case e6 => k_is); (case e7 => k_is); (case u_NoName => k_is); (case u_NoRule => k_is); (case u_NoText => k_is); (case p_NoText_NoText => k_is); (case p_NoText_CellError => k_is); (case p_NoText_NoName => k_is); (case p_NoText_NoRule => k_is); (case p_NoText_ValueError => k_is)
