import PyProof.Rows.All
import Wide.All
import OpenK.AllK
import Wide.FinOn
import HandS.ForMost
import HandS.Exc
import HandS.TryOnly
import HandS.ExcOwn
import HandS.WordsExc
import HandS.Deep
import HandS.Wide
import HandS.IsInst
import KE.KDictKeyed
import HandS.Lambda
import HandS.Style
import HandS.Conv
import HandS.Iter
import HandS.Zip
import KE.SortKeyed
import KE.DataMinMax
import KE.DataCmp
import HandS.TupAny
import HandS.TupSets
import KE.SortData
import HandS.SetFor
import HandS.Strs
import HandS.ExcIs
import KE.BitLaws
import HandS.TupMul
import HandS.SortKw
import HandS.DictTup
import KE.KDictWalk
import HandS.WideBits
import KE.IntBitsLaws
import HandS.ExcValue
import HandS.Rev
import HandS.RevRange
import KE.KDictPairs
import KE.KEqNest
import HandS.Flow
import HandS.Text
import KE.KDictCopyH
import HandS.ListEq
import HandS.Keys
import PyProof.LongRange
import HandS.Replace
import HandS.StrMore
import KE.KRevSl
import PyProof.DictMoreH
import KE.IntTextLaws
import PyProof.Draws
import PyProof.EnumMake
import PyProof.EqKinds
import PyProof.FactsAll.dict
import KE.SortKeyHeap
import HandS.EndTab
import HandS.HotCalls
import HandS.BoundDict
import KE.KDictLaws
import KE.KDictSum
import PySem.Challenge.RW_cellships_k49_papers_of_none
set_option Elab.async false
set_option linter.all false
set_option maxRecDepth 100000
set_option autoImplicit false
set_option maxHeartbeats 4000000
namespace G
open PySem PySem.Spec PyProof.Rows L2

inductive D where
  | non | bl (b : Bool) | int (i : Int) | str (x : Str) | ty (n : String) | tup (ds : List D) | lst (ds : List D) | fix (ds : List D)
  | dicK (z : Bool) (es : List (Key × D)) | dicT (z : Bool) (es : List (List Key × D)) | dicN (z : Bool) (es : List (D × D))
  | exn (c : String) | inst (c : String) (fs : List (Str × D))
  | tab (a : Addr) (q : Str) | lnk (a : Addr) | atd (a : Addr) (d : D)
mutual
/-- the key of nested tuples of whole numbers that a value is -/
def nkD : D → Option NestedKey
  | .int i => some (.num i)
  | .tup ds => (nkDs ds).map .tup
  | _ => none
def nkDs : List D → Option (List NestedKey)
  | [] => some []
  | d :: ds => (nkD d).bind fun k => (nkDs ds).map (k :: ·)
end
/-- at a stands a dict whose keys are nested tuples of whole numbers: each key, the address of its tuple, its value -/
def NDict (a : Addr) (kvs : List (NestedKey × Addr × V)) : Heap → Prop := fun h => kvs.length ≤ sizeLine ∧ (a == sysModules) = false ∧ (∀ e ∈ kvs, e.1.depth ≤ 8) ∧ ∃ xs : List (NestedKey × Addr × Value),
  Paired (fun (p : NestedKey × Addr × V) (q : NestedKey × Addr × Value) => p.1 = q.1 ∧ p.2.1 = q.2.1 ∧ RelV p.2.2 q.2.2) kvs xs ∧
  ∃ o es ep, h.get? a = some o ∧ o.ExactDict ∧ o.data = .dict es ep ∧ (∀ (P : Program) (w : World), es.toList = xs.map (entryOfKey (nestedKind P w))) ∧ (xs.map (·.1)).Nodup
/-- a dict, locked for good or not -/
def frzIf (z : Bool) (o : Obj) (u : HO) : HO := if z = true then .frz o u else u

/-- the class of this name stands at C -/
def ClsAt (K : PySem.W.Frag) (c : String) (C : Addr) : Prop := PySem.W.nsIn K mainGlobals (Str.ofString c) = some (some (.ref C))
theorem ClsAt.uniq {K : PySem.W.Frag} {c : String} {C C' : Addr} (h : ClsAt K c C) (h' : ClsAt K c C') : C = C' := by
  unfold ClsAt at h h'
  rw [h] at h'
  injection h' with h'
  injection h' with h'
  injection h'
/-- at a stands an exception of the class at C -/
def ExcK (C a : Addr) : HO := .ext fun h => ∃ (oe : Obj) (vs : Array Value), h.get? a = some oe ∧ Zc (.ref C) none oe ∧ oe.data = .fields vs
mutual
inductive Rp (K : PySem.W.Frag) (F : Hp) : V → D → Prop
  | non : Rp K F .non .non
  | bl (b : Bool) : Rp K F (.bl b) (.bl b)
  | int (i : Int) : Rp K F (.int i) (.int i)
  | str (x : Str) : Rp K F (.str x) (.str x)
  | ty (n : String) : Rp K F (.ty n) (.ty n)
  | tup {a : Addr} {xs : List V} {ds : List D} : F a = some (.tup xs) → RpAll K F xs ds → Rp K F (.ref a) (.tup ds)
  | lst {a : Addr} {xs : List V} {ds : List D} : F a = some (.lst xs) → RpAll K F xs ds → Rp K F (.ref a) (.lst ds)
  | fix {a : Addr} {xs : List V} {ds : List D} : SqL K F a xs → RpAll K F xs ds → Rp K F (.ref a) (.fix ds)
  | dicK {z : Bool} {o : Obj} {a : Addr} {kvs : List (Key × V)} {es : List (Key × D)} : F a = some (frzIf z o (.dK kvs)) → kvs.map (·.1) = es.map (·.1) → RpAll K F (kvs.map (·.2)) (es.map (·.2)) → Rp K F (.ref a) (.dicK z es)
  | dicT {z : Bool} {o : Obj} {a : Addr} {kvs : List (List Key × V)} {es : List (List Key × D)} : F a = some (frzIf z o (.dT kvs)) → kvs.map (·.1) = es.map (·.1) → RpAll K F (kvs.map (·.2)) (es.map (·.2)) → Rp K F (.ref a) (.dicT z es)
  | dicN {z : Bool} {o : Obj} {a : Addr} {kvs : List (NestedKey × Addr × V)} {es : List (D × D)} : F a = some (frzIf z o (.ext (NDict a kvs))) → kvs.map (fun e => some e.1) = es.map (fun e => nkD e.1) → RpAll K F (kvs.map fun e => V.ref e.2.1) (es.map (·.1)) → RpAll K F (kvs.map fun e => e.2.2) (es.map (·.2)) → Rp K F (.ref a) (.dicN z es)
  | exn {a C : Addr} {c : String} : ClsAt K c C → F a = some (ExcK C a) → Rp K F (.ref a) (.exn c)
  | inst {a C dx : Addr} {c : String} {fs : List (Str × V)} {es : List (Str × D)} : ClsAt K c C → F a = some (.ins C dx fs) → fs.map (·.1) = es.map (·.1) → RpAll K F (fs.map (·.2)) (es.map (·.2)) → Rp K F (.ref a) (.inst c es)
  | tab {a : Addr} {q : Str} {ps : Array Value} : F a = some (.tbl ps) → Rp K F (.ref a) (.tab a q)
  | lnk {a : Addr} : Rp K F (.ref a) (.lnk a)
  | atd {a : Addr} {d : D} : Rp K F (.ref a) d → Rp K F (.ref a) (.atd a d)
inductive RpAll (K : PySem.W.Frag) (F : Hp) : List V → List D → Prop
  | nil : RpAll K F [] []
  | cons {v : V} {vs : List V} {d : D} {ds : List D} : Rp K F v d → RpAll K F vs ds → RpAll K F (v :: vs) (d :: ds)
end

theorem same_seqT {K : PySem.W.Frag} {H H' : Hp} {a : Addr} {xs : List V} (e : Same H H') (h : SqT K H a xs) : SqT K H' a xs := by
  rcases h with (h | ⟨o, h⟩) | h
  · exact .inl (.inl (e _ _ h))
  · exact .inl (.inr ⟨o, e _ _ h⟩)
  · exact .inr h
section
variable {K : PySem.W.Frag} {F F' H H' : Hp}
theorem Rp.mono (e : Same F F') {v : V} {d : D} (h : Rp K F v d) : Rp K F' v d := by
  refine Rp.rec (motive_1 := fun v d _ => Rp K F' v d) (motive_2 := fun vs ds _ => RpAll K F' vs ds) ?_ ?_ ?_ ?_ ?_ ?_ ?_ ?_ ?_ ?_ ?_ ?_ ?_ ?_ ?_ ?_ ?_ ?_ h
  · exact .non
  · exact fun b => .bl b
  · exact fun i => .int i
  · exact fun x => .str x
  · exact fun n => .ty n
  · exact fun h _ r => .tup (e _ _ h) r
  · exact fun h _ r => .lst (e _ _ h) r
  · exact fun h _ r => .fix (e.seq h) r
  · exact fun h k _ r => .dicK (e _ _ h) k r
  · exact fun h k _ r => .dicT (e _ _ h) k r
  · exact fun h k _ _ r q => .dicN (e _ _ h) k r q
  · exact fun k h => .exn k (e _ _ h)
  · exact fun c h k _ r => .inst c (e _ _ h) k r
  · exact fun h => .tab (e _ _ h)
  · exact .lnk
  · exact fun _ r => .atd r
  · exact .nil
  · exact fun _ _ r1 r2 => .cons r1 r2
theorem RpAll.mono (e : Same F F') : ∀ {vs : List V} {ds : List D}, RpAll K F vs ds → RpAll K F' vs ds
  | _, _, .nil => .nil
  | _, _, .cons a b => .cons (a.mono e) (b.mono e)
theorem RpAll.length : ∀ {vs : List V} {ds : List D}, RpAll K F vs ds → vs.length = ds.length
  | _, _, .nil => rfl
  | _, _, .cons _ b => by rw [List.length_cons, List.length_cons, b.length]
theorem RpAll.append : ∀ {vs ws : List V} {ds es : List D}, RpAll K F vs ds → RpAll K F ws es → RpAll K F (vs ++ ws) (ds ++ es)
  | _, _, _, _, .nil, h => h
  | _, _, _, _, .cons a b, h => .cons a (b.append h)
theorem RpAll.snoc {vs : List V} {ds : List D} {v : V} {d : D} (h : RpAll K F vs ds) (q : Rp K F v d) : RpAll K F (vs ++ [v]) (ds ++ [d]) := h.append (.cons q .nil)
theorem RpAll.get : ∀ {vs : List V} {ds : List D} {i : Nat} {d : D}, RpAll K F vs ds → ds[i]? = some d → ∃ v, vs[i]? = some v ∧ Rp K F v d
  | _, _, _, _, .nil, e => by simp at e
  | _, _, 0, _, .cons r _, e => by simp at e; subst e; exact ⟨_, rfl, r⟩
  | _, _, i + 1, d, .cons _ t, e => by
    obtain ⟨u, h1, h2⟩ := RpAll.get (i := i) (d := d) t (by simpa using e)
    exact ⟨u, by simpa using h1, h2⟩
theorem RpAll.set {v : V} {d : D} (r : Rp K F v d) : ∀ {xs : List V} {us : List D} (i : Nat), RpAll K F xs us → RpAll K F (xs.set i v) (us.set i d)
  | _, _, _, .nil => .nil
  | _, _, 0, .cons _ t => .cons r t
  | _, _, i + 1, .cons q t => .cons q (RpAll.set r i t)
theorem RpAll.reverse {vs : List V} {ds : List D} (h : RpAll K F vs ds) : RpAll K F vs.reverse ds.reverse := by
  induction vs generalizing ds with
  | nil => cases h; exact .nil
  | cons v vs ih => cases h with | cons a b => rw [List.reverse_cons, List.reverse_cons]; exact (ih b).snoc a
theorem RpAll.take : ∀ {vs : List V} {ds : List D} (n : Nat), RpAll K F vs ds → RpAll K F (vs.take n) (ds.take n)
  | _, _, 0, _ => .nil
  | _, _, _ + 1, .nil => .nil
  | _, _, n + 1, .cons a b => .cons a (b.take n)
theorem RpAll.drop : ∀ {vs : List V} {ds : List D} (n : Nat), RpAll K F vs ds → RpAll K F (vs.drop n) (ds.drop n)
  | _, _, 0, h => h
  | _, _, _ + 1, .nil => .nil
  | _, _, n + 1, .cons _ b => b.drop n
theorem RpAll.ints : ∀ {vs : List V} {ns : List Int}, RpAll K F vs (ns.map D.int) → vs = ns.map V.int
  | _, [], .nil => rfl
  | _, _ :: _, .cons (.int _) b => by rw [RpAll.ints b]; rfl
theorem RpAll.of_ints : ∀ (ns : List Int), RpAll K F (ns.map V.int) (ns.map D.int)
  | [] => .nil
  | n :: ns => .cons (.int n) (RpAll.of_ints ns)
end

/-- a slot holds nothing, a value, an object of its own, a thing that is only read here and stays as it is, or the exception at a -/
inductive Slot where
  | emp | val (d : D) | own (d : D) | rd (d : D) | adr (a : Addr)
abbrev Rho := List Slot
/-- what an owned object holds -/
inductive Ro (K : PySem.W.Frag) (F : Hp) : Addr → HO → D → Prop
  | lst {p : Addr} {xs : List V} {ds : List D} : RpAll K F xs ds → Ro K F p (.lst xs) (.lst ds)
  | dicK {p : Addr} {z : Bool} {o : Obj} {kvs : List (Key × V)} {es : List (Key × D)} : kvs.map (·.1) = es.map (·.1) → RpAll K F (kvs.map (·.2)) (es.map (·.2)) → Ro K F p (frzIf z o (.dK kvs)) (.dicK z es)
  | dicT {p : Addr} {z : Bool} {o : Obj} {kvs : List (List Key × V)} {es : List (List Key × D)} : kvs.map (·.1) = es.map (·.1) → RpAll K F (kvs.map (·.2)) (es.map (·.2)) → Ro K F p (frzIf z o (.dT kvs)) (.dicT z es)
  | dicN {p : Addr} {z : Bool} {o : Obj} {kvs : List (NestedKey × Addr × V)} {es : List (D × D)} : kvs.map (fun e => some e.1) = es.map (fun e => nkD e.1) → RpAll K F (kvs.map fun e => V.ref e.2.1) (es.map (·.1)) → RpAll K F (kvs.map fun e => e.2.2) (es.map (·.2)) → Ro K F p (frzIf z o (.ext (NDict p kvs))) (.dicN z es)
  | ins {p C dx : Addr} {c : String} {fs : List (Str × V)} {es : List (Str × D)} : ClsAt K c C → fs.map (·.1) = es.map (·.1) → RpAll K F (fs.map (·.2)) (es.map (·.2)) → Ro K F p (.ins C dx fs) (.inst c es)
  | tab {p : Addr} {q : Str} {ps : Array Value} : TriplesOk ps.toList → (∀ (pos : Pos) (cv : Value), codeAmong pos ps.toList = some cv → ∃ c, cv = .ref c ∧ F c = some (LamX.CodeO c q)) → Ro K F p (.tbl ps) (.tab p q)
  | atd {p : Addr} {o : HO} {d : D} : Ro K F p o d → Ro K F p o (.atd p d)
theorem Ro.mono {K : PySem.W.Frag} {F F' : Hp} (e : Same F F') {p : Addr} {o : HO} {d : D} : Ro K F p o d → Ro K F' p o d
  | .lst r => .lst (r.mono e)
  | .dicK k r => .dicK k (r.mono e)
  | .dicT k r => .dicT k (r.mono e)
  | .dicN k r q => .dicN k (r.mono e) (q.mono e)
  | .ins c k r => .ins c k (r.mono e)
  | .tab t k => .tab t fun pos cv h => let ⟨c, e1, e2⟩ := k pos cv h; ⟨c, e1, e _ _ e2⟩
  | .atd r => .atd (r.mono e)

/-- not a tuple: a tuple that is tracked may become known at any time -/
def NTup (o : HO) : Prop := ∀ xs, o ≠ .tup xs
theorem nt_lst {xs : List V} : NTup (.lst xs) := fun _ h => by cases h
theorem Ro.nt {K : PySem.W.Frag} {F : Hp} {p : Addr} {o : HO} {d : D} : Ro K F p o d → NTup o
  | .lst _ => fun _ h => nomatch h
  | .dicK (z := z) _ _ => fun xs h => by cases z <;> exact nomatch h
  | .dicT (z := z) _ _ => fun xs h => by cases z <;> exact nomatch h
  | .dicN (z := z) _ _ _ => fun xs h => by cases z <;> exact nomatch h
  | .ins _ _ _ => fun _ h => nomatch h
  | .tab _ _ => fun _ h => nomatch h
  | .atd r => r.nt

/-- what can be read: a value, or an object that is not frozen -/
def nofx : D → Bool
  | .fix _ => false
  | .lnk _ => false
  | .atd _ d => nofx d
  | _ => true
theorem rp_at {K : PySem.W.Frag} {F : Hp} {p : Addr} : ∀ {d : D}, Rp K F (.ref p) d → nofx d = true → F p = none → False := by
  intro d h n e
  cases h with
  | tup h _ => rw [e] at h; cases h
  | lst h _ => rw [e] at h; cases h
  | fix _ _ => cases n
  | dicK h _ _ => rw [e] at h; cases h
  | dicT h _ _ => rw [e] at h; cases h
  | dicN h _ _ _ => rw [e] at h; cases h
  | exn _ h => rw [e] at h; cases h
  | inst _ h _ _ => rw [e] at h; cases h
  | tab h => rw [e] at h; cases h
  | lnk => cases n
  | atd h => exact rp_at h n e
inductive Ra (K : PySem.W.Frag) (F H : Hp) : V → D → Prop
  | val {v : V} {d : D} : Rp K F v d → nofx d = true → Ra K F H v d
  | own {p : Addr} {o : HO} {d : D} : F p = none → H p = some o → Ro K F p o d → Ra K F H (.ref p) d
inductive SRel (K : PySem.W.Frag) (F H : Hp) : Slot → Option V → Prop
  | emp {o : Option V} : SRel K F H .emp o
  | val {v : V} {d : D} : Rp K F v d → SRel K F H (.val d) (some v)
  | own {p : Addr} {o : HO} {d : D} : F p = none → H p = some o → Ro K F p o d → SRel K F H (.own d) (some (.ref p))
  | rd {v : V} {d : D} : Ra K F H v d → SRel K F H (.rd d) (some v)
  | adr {a : Addr} : SRel K F H (.adr a) (some (.ref a))
theorem Ra.step {K : PySem.W.Frag} {F H F' H' : Hp} {v : V} {d : D} (ex : Same F F') (k : ∀ p u, NTup u → v = .ref p → H p = some u → F p = none → H' p = some u ∧ F' p = none) : Ra K F H v d → Ra K F' H' v d
  | .val r n => .val (r.mono ex) n
  | .own h1 h2 h3 => .own (k _ _ h3.nt rfl h2 h1).2 (k _ _ h3.nt rfl h2 h1).1 (h3.mono ex)
theorem SRel.step {K : PySem.W.Frag} {F H F' H' : Hp} {s : Slot} {o : Option V} (ex : Same F F') (k : ∀ p u, NTup u → o = some (.ref p) → H p = some u → F p = none → H' p = some u ∧ F' p = none) : SRel K F H s o → SRel K F' H' s o
  | .emp => .emp
  | .val r => .val (r.mono ex)
  | .own h1 h2 h3 => .own (k _ _ h3.nt rfl h2 h1).2 (k _ _ h3.nt rfl h2 h1).1 (h3.mono ex)
  | .rd r => .rd (r.step ex fun p u n e => k p u n (by rw [e]))
  | .adr => .adr
def Own (ρ : Rho) (σ : L2.St) (p : Addr) : Prop := ∃ (i : Nat) (d : D), ρ[i]? = some (Slot.own d) ∧ σ[i]? = some (some (V.ref p))
structure Rel (K : PySem.W.Frag) (F H : Hp) (ρ : Rho) (σ : L2.St) : Prop where
  ex : Same F H
  len : ρ.length = σ.length
  at' : ∀ (i : Nat) (s : Slot) (o : Option V), ρ[i]? = some s → σ[i]? = some o → SRel K F H s o
  dis : ∀ (i j : Nat) (d e : D) (p : Addr), ρ[i]? = some (Slot.own d) → ρ[j]? = some (Slot.own e) → σ[i]? = some (some (V.ref p)) → σ[j]? = some (some (V.ref p)) → i = j
  rdis : ∀ (i : Nat) (d : D) (p : Addr), ρ[i]? = some (Slot.rd d) → σ[i]? = some (some (V.ref p)) → ¬ Own ρ σ p
structure Go (K : PySem.W.Frag) (ρ : Rho) (σ : L2.St) (F H : Hp) (ρ' : Rho) (σ' : L2.St) (F' H' : Hp) : Prop where
  rel : Rel K F' H' ρ' σ'
  ex : Same F F'
  keep : ∀ a o, H a = some o → F a = none → ¬ Own ρ σ a → H' a = some o ∧ (NTup o → F' a = none)
  own : ∀ p, Own ρ' σ' p → Own ρ σ p ∨ H p = none
  low : σ'[0]? = σ[0]?
  lowO : ∀ d : D, ρ[0]? = some (Slot.own d) → ∃ d' : D, ρ'[0]? = some (Slot.own d')
  rdb : ∀ (i : Nat) (d : D), ρ'[i]? = some (Slot.rd d) → ρ[i]? = some (Slot.rd d) ∧ σ'[i]? = σ[i]?
section
variable {K : PySem.W.Frag} {F H F1 H1 F2 H2 : Hp} {ρ ρ1 ρ2 : Rho} {σ σ1 σ2 : L2.St}
theorem Go.refl (r : Rel K F H ρ σ) : Go K ρ σ F H ρ σ F H := ⟨r, Same.refl F, fun _ _ h1 h2 _ => ⟨h1, fun _ => h2⟩, fun _ h => .inl h, rfl, fun d h => ⟨d, h⟩, fun _ _ h => ⟨h, rfl⟩⟩
theorem Go.trans (r : Rel K F H ρ σ) (a : Go K ρ σ F H ρ1 σ1 F1 H1) (b : Go K ρ1 σ1 F1 H1 ρ2 σ2 F2 H2) : Go K ρ σ F H ρ2 σ2 F2 H2 where
  rel := b.rel
  ex := a.ex.trans b.ex
  keep := fun p o h1 h2 h3 => by
    obtain ⟨q1, q2⟩ := a.keep p o h1 h2 h3
    have no : ¬ Own ρ1 σ1 p := fun z => by
      rcases a.own p z with z | z
      · exact h3 z
      · rw [h1] at z; cases z
    cases qf : F1 p with
    | none =>
      obtain ⟨k1, k2⟩ := b.keep p o q1 qf no
      exact ⟨k1, k2⟩
    | some u =>
      have e1 := a.rel.ex p u qf
      rw [q1] at e1
      cases e1
      exact ⟨b.rel.ex p o (b.ex p o qf), fun n => by rw [q2 n] at qf; cases qf⟩
  own := fun p h => by
    rcases b.own p h with h | h
    · exact a.own p h
    · cases q : H p with
      | none => exact .inr rfl
      | some o =>
        refine .inl ?_
        cases qf : F p with
        | some u =>
          have := (a.rel.ex) p u (a.ex p u qf)
          rw [h] at this; cases this
        | none =>
          refine Classical.byContradiction fun z => ?_
          have := (a.keep p o q qf z).1
          rw [h] at this; cases this
  low := b.low.trans a.low
  lowO := fun d h => by
    obtain ⟨d1, h1⟩ := a.lowO d h
    exact b.lowO d1 h1
  rdb := fun i d h => by
    obtain ⟨h1, h2⟩ := b.rdb i d h
    obtain ⟨h3, h4⟩ := a.rdb i d h1
    exact ⟨h3, h2.trans h4⟩
/-- all that was known is as it was -/
theorem Go.sameH (r : Rel K F H ρ σ) (a : Go K ρ σ F H ρ1 σ1 F1 H1) {p : Addr} {o : HO} (h : H p = some o) (hn : ¬ Own ρ σ p) : H1 p = some o := by
  cases qf : F p with
  | some u =>
    have e1 := r.ex p u qf
    rw [h] at e1
    cases e1
    exact a.rel.ex p o (a.ex p o qf)
  | none => exact (a.keep p o h qf hn).1
theorem Rel.val {i : Nat} {d : D} (r : Rel K F H ρ σ) (h : ρ[i]? = some (.val d)) : ∃ v, σ[i]? = some (some v) ∧ Rp K F v d := by
  have hi : i < ρ.length := by
    cases Nat.lt_or_ge i ρ.length with
    | inl z => exact z
    | inr z => rw [List.getElem?_eq_none z] at h; cases h
  have hs : i < σ.length := r.len ▸ hi
  have e := r.at' i _ _ h (List.getElem?_eq_getElem hs)
  rw [List.getElem?_eq_getElem hs]
  cases q : σ[i] with
  | none => rw [q] at e; cases e
  | some v => rw [q] at e; cases e with | val e => exact ⟨v, rfl, e⟩
theorem Rel.own {i : Nat} {d : D} (r : Rel K F H ρ σ) (h : ρ[i]? = some (.own d)) : ∃ p o, σ[i]? = some (some (.ref p)) ∧ F p = none ∧ H p = some o ∧ Ro K F p o d := by
  have hi : i < ρ.length := by
    cases Nat.lt_or_ge i ρ.length with
    | inl z => exact z
    | inr z => rw [List.getElem?_eq_none z] at h; cases h
  have hs : i < σ.length := r.len ▸ hi
  have e := r.at' i _ _ h (List.getElem?_eq_getElem hs)
  rw [List.getElem?_eq_getElem hs]
  cases q : σ[i] with
  | none => rw [q] at e; cases e
  | some v => rw [q] at e; cases e with | own e1 e2 e3 => exact ⟨_, _, rfl, e1, e2, e3⟩
end

/-- what slot i holds can be read -/
def rdD (i : Nat) (ρ : Rho) : Option D := match ρ[i]? with
  | some (.own d) => some d
  | some (.rd d) => some d
  | _ => none
theorem Rel.rd {K : PySem.W.Frag} {F H : Hp} {ρ : Rho} {σ : L2.St} {i : Nat} {d : D} (r : Rel K F H ρ σ) (h : rdD i ρ = some d) : ∃ v, σ[i]? = some (some v) ∧ Ra K F H v d := by
  unfold rdD at h
  have look : ∀ s, ρ[i]? = some s → ∃ o, σ[i]? = some o ∧ SRel K F H s o := fun s hs => by
    have hi : i < ρ.length := by
      cases Nat.lt_or_ge i ρ.length with
      | inl z => exact z
      | inr z => rw [List.getElem?_eq_none z] at hs; cases hs
    have hs2 : i < σ.length := r.len ▸ hi
    exact ⟨_, List.getElem?_eq_getElem hs2, r.at' i _ _ hs (List.getElem?_eq_getElem hs2)⟩
  split at h
  · rename_i e
    cases h
    obtain ⟨o, h1, h2⟩ := look _ e
    cases h2 with
    | own a b c => exact ⟨_, h1, .own a b c⟩
  · rename_i e
    cases h
    obtain ⟨o, h1, h2⟩ := look _ e
    cases h2 with
    | rd a => exact ⟨_, h1, a⟩
  · cases h

structure Gr (F H F' H' : Hp) : Prop where
  ex : Same F F'
  exH : Same H H'
  sub : Same F' H'
  keep : ∀ a o, NTup o → H a = some o → F a = none → F' a = none
section
variable {K : PySem.W.Frag} {F H F1 H1 F2 H2 : Hp} {ρ : Rho} {σ : L2.St}
theorem Gr.refl (e : Same F H) : Gr F H F H := ⟨Same.refl F, Same.refl H, e, fun _ _ _ _ h => h⟩
theorem Gr.trans (a : Gr F H F1 H1) (b : Gr F1 H1 F2 H2) : Gr F H F2 H2 := ⟨a.ex.trans b.ex, a.exH.trans b.exH, b.sub, fun p o n h1 h2 => b.keep p o n (a.exH p o h1) (a.keep p o n h1 h2)⟩
theorem SRel.gr {s : Slot} {o : Option V} (g : Gr F H F1 H1) (h : SRel K F H s o) : SRel K F1 H1 s o := h.step g.ex fun p u n _ h1 h2 => ⟨g.exH p u h1, g.keep p u n h1 h2⟩
theorem Ra.gr {v : V} {d : D} (g : Gr F H F1 H1) (h : Ra K F H v d) : Ra K F1 H1 v d := h.step g.ex fun p u n _ h1 h2 => ⟨g.exH p u h1, g.keep p u n h1 h2⟩
theorem Rel.gr (g : Gr F H F1 H1) (r : Rel K F H ρ σ) : Rel K F1 H1 ρ σ := ⟨g.sub, r.len, fun i s o h1 h2 => (r.at' i s o h1 h2).gr g, r.dis, r.rdis⟩
theorem Gr.go (g : Gr F H F1 H1) (r : Rel K F H ρ σ) : Go K ρ σ F H ρ σ F1 H1 := ⟨r.gr g, g.ex, fun p o h1 h2 _ => ⟨g.exH p o h1, fun n => g.keep p o n h1 h2⟩, fun _ h => .inl h, rfl, fun d h => ⟨d, h⟩, fun _ _ h => ⟨h, rfl⟩⟩
/-- a new frozen object -/
theorem Gr.new {p : Addr} {o : HO} (e : Same F H) (hp : H p = none) : Gr F H (upd F p o) (upd H p o) := by
  have hf : F p = none := e.free hp
  refine ⟨fun b u h => by rw [upd_ne (ne_of_none h hf)]; exact h, fun b u h => by rw [upd_ne (ne_of_none h hp)]; exact h, fun b u h => ?_, fun a u _ h1 h2 => by rw [upd_ne (ne_of_none h1 hp)]; exact h2⟩
  by_cases hb : b = p
  · subst hb; rw [upd_same] at h ⊢; exact h
  · rw [upd_ne hb] at h ⊢; exact e b u h
/-- a new object, not frozen -/
theorem Gr.newO {p : Addr} {o : HO} (e : Same F H) (hp : H p = none) : Gr F H F (upd H p o) := by
  refine ⟨Same.refl F, fun b u h => by rw [upd_ne (ne_of_none h hp)]; exact h, fun b u h => by rw [upd_ne (ne_of_none (e b u h) hp)]; exact e b u h, fun a u _ h1 h2 => h2⟩
end

inductive Res (α : Type) where
  | ok (a : α) (ρ : Rho) | exc (c : String) (ρ : Rho) | bad
def Res.bind {α β : Type} (r : Res α) (f : α → Rho → Res β) : Res β := match r with
  | .ok a ρ => f a ρ
  | .exc c ρ => .exc c ρ
  | .bad => .bad
abbrev XV := Rho → Res D
abbrev XT := Rho → Res Bool
abbrev XA := Rho → Res (List D)
/-- the wish of exceptions -/
abbrev EW := String → L2.St → Hp → Prop

section
variable (K : PySem.W.Frag) (E : EW)
/-- what is asked of an expression that does t -/
def Pend {α : Type} (t : Rho → Res α) (ρ : Rho) (σ : L2.St) (F H : Hp) (Q : α → Rho → Hp → Hp → Prop) : Prop := match t ρ with
  | .ok a ρ' => ∀ F' H', Go K ρ σ F H ρ' σ F' H' → Q a ρ' F' H'
  | .exc c ρ' => ∀ F' H', Go K ρ σ F H ρ' σ F' H' → E c σ H'
  | .bad => False
def lE (t : XV) : TE := fun σ H Q => ∃ F ρ, Rel K F H ρ σ ∧ Pend K E t ρ σ F H fun d _ F' H' => ∀ v, Rp K F' v d → Q v H'
def lT (t : XT) : TT := fun σ H Q => ∃ F ρ, Rel K F H ρ σ ∧ Pend K E t ρ σ F H fun b _ _ H' => Q b H'
def lA (t : XA) : TA := fun σ H Q => ∃ F ρ, Rel K F H ρ σ ∧ Pend K E t ρ σ F H fun ds _ F' H' => ∀ vs, RpAll K F' vs ds → Q vs H'
/-- a new object: it is known, not frozen, owned by none -/
def lN (t : XV) : TE := fun σ H Q => ∃ F ρ, Rel K F H ρ σ ∧ Pend K E t ρ σ F H fun d ρ' F' H' => ∀ p o, F' p = none → H' p = some o → Ro K F' p o d → ¬ Own ρ' σ p → (Own ρ σ p ∨ H p = none) → Q (.ref p) H'
end
section
variable {K : PySem.W.Frag} {E : EW} {σ : L2.St} {F H : Hp} {ρ : Rho}
theorem Pend.mono {α : Type} {t : Rho → Res α} {Q Q' : α → Rho → Hp → Hp → Prop} (h : Pend K E t ρ σ F H Q) (k : ∀ a ρ' F' H', Go K ρ σ F H ρ' σ F' H' → Q a ρ' F' H' → Q' a ρ' F' H') : Pend K E t ρ σ F H Q' := by
  unfold Pend at h ⊢
  split <;> rename_i e <;> rw [e] at h
  · exact fun F' H' g => k _ _ _ _ g (h F' H' g)
  · exact h
  · exact h
/-- one after another -/
theorem Pend.bind {α β : Type} {t : Rho → Res α} {f : α → Rho → Res β} {Q : β → Rho → Hp → Hp → Prop} (r : Rel K F H ρ σ) (h : Pend K E (fun ρ => (t ρ).bind f) ρ σ F H Q) :
    Pend K E t ρ σ F H fun a ρ1 F1 H1 => Pend K E (f a) ρ1 σ F1 H1 Q := by
  unfold Pend at h ⊢
  split <;> rename_i e <;> simp only [e, Res.bind] at h
  · intro F1 H1 g
    split <;> rename_i e2 <;> rw [e2] at h
    · exact fun F2 H2 g2 => h F2 H2 (g.trans r g2)
    · exact fun F2 H2 g2 => h F2 H2 (g.trans r g2)
    · exact h
  · exact h
theorem Pend.ok {α : Type} {a : α} {ρ' : Rho} {t : Rho → Res α} {Q : α → Rho → Hp → Hp → Prop} (h : Pend K E t ρ σ F H Q) (e : t ρ = .ok a ρ') : ∀ F' H', Go K ρ σ F H ρ' σ F' H' → Q a ρ' F' H' := by
  unfold Pend at h
  rw [e] at h
  exact h
end
end G


namespace G
open PySem PySem.Spec PyProof.Rows L2

section
variable {X : Cx}
theorem pe_imp {e : Expr} {t t' : TE} (h : PE X e t) (k : ∀ σ H Q, t' σ H Q → t σ H Q) : PE X e t' := ⟨fun pins s σ H Q I q => h.run pins s σ H Q I (k σ H Q q)⟩
theorem pt_imp {e : Expr} {t t' : TT} (h : PT X e t) (k : ∀ σ H Q, t' σ H Q → t σ H Q) : PT X e t' := ⟨fun pins s σ H Q I q => h.run pins s σ H Q I (k σ H Q q)⟩
theorem pa_imp {e : List Expr} {t t' : TA} (h : PA X e t) (k : ∀ σ H Q, t' σ H Q → t σ H Q) : PA X e t' := ⟨fun pos pins s σ H Q I q => h.run pos pins s σ H Q I (k σ H Q q)⟩
theorem ps_imp {e : Stmt} {t t' : TS} (h : PS X e t) (k : ∀ D σ H, t' D σ H → t D σ H) : PS X e t' := ⟨fun pins s σ H D I q => h.run pins s σ H D I (k D σ H q)⟩
theorem pss_imp {e : List Stmt} {t t' : TS} (h : PSs X e t) (k : ∀ D σ H, t' D σ H → t D σ H) : PSs X e t' := ⟨fun pins s σ H D I q => h.run pins s σ H D I (k D σ H q)⟩
end
section
variable {K : PySem.W.Frag} {E : EW} {σ : L2.St} {F H : Hp} {ρ : Rho}
theorem ro_nofx : ∀ {p : Addr} {o : HO} {d : D}, Ro K F p o d → nofx d = true
  | _, _, _, .lst _ => rfl
  | _, _, _, .dicK _ _ => rfl
  | _, _, _, .dicT _ _ => rfl
  | _, _, _, .dicN _ _ _ => rfl
  | _, _, _, .ins _ _ _ => rfl
  | _, _, _, .tab _ _ => rfl
  | _, _, .atd _ d, .atd r => by have := ro_nofx r; exact this
theorem ro_rp : ∀ {p : Addr} {o : HO} {d : D}, F p = none → Ro K F p o d → Rp K (upd F p o) (.ref p) d
  | p, o, d, hf, ro => by
    have hs : Same F (upd F p o) := fun b u q => by rw [upd_ne (ne_of_none q hf)]; exact q
    cases ro with
    | lst r => exact .lst upd_same (r.mono hs)
    | dicK k r => exact .dicK upd_same k (r.mono hs)
    | dicT k r => exact .dicT upd_same k (r.mono hs)
    | dicN k r q2 => exact .dicN upd_same k (r.mono hs) (q2.mono hs)
    | ins c k r => exact .inst c upd_same k (r.mono hs)
    | tab _ _ => exact .tab upd_same
    | atd r => exact .atd (ro_rp hf r)
/-- a new object, taken as it is -/
theorem lE_of_lN {t : XV} {Q : VK} (h : lE K E t σ H Q) : lN K E t σ H Q := by
  obtain ⟨F, ρ, r, p⟩ := h
  refine ⟨F, ρ, r, ?_⟩
  unfold Pend at p ⊢
  split <;> rename_i e <;> rw [e] at p
  · rename_i d ρ'
    intro F1 H1 g a o hf hh ro hn hw
    refine p (upd F1 a o) H1 ?_ (.ref a) ?_
    · refine ⟨⟨fun b u q => ?_, g.rel.len, fun i s v h1 h2 => ?_, g.rel.dis, g.rel.rdis⟩, fun b u q => ?_, fun b u h1 h2 h3 => ?_, g.own, g.low, g.lowO, g.rdb⟩
      · by_cases hb : b = a
        · subst hb; rw [upd_same] at q; rw [hh]; exact q
        · rw [upd_ne hb] at q; exact g.rel.ex b u q
      · have hs : Same F1 (upd F1 a o) := fun b u q => by rw [upd_ne (ne_of_none q hf)]; exact q
        have z := g.rel.at' i s v h1 h2
        cases z with
        | emp => exact .emp
        | adr => exact .adr
        | val rp => exact .val (rp.mono hs)
        | own z1 z2 z3 =>
          refine .own ?_ z2 (z3.mono hs)
          rw [upd_ne]
          · exact z1
          · rintro rfl
            exact hn ⟨i, _, h1, h2⟩
        | rd ra =>
          cases ra with
          | val rp nf => exact .rd (.val (rp.mono hs) nf)
          | @own p u _ z1 z2 z3 =>
            by_cases hp : p = a
            · subst hp
              rw [hh] at z2
              cases z2
              exact .rd (.val (ro_rp hf z3) (ro_nofx z3))
            · exact .rd (.own (by rw [upd_ne hp]; exact z1) z2 (z3.mono hs))
      · have q' := g.ex b u q
        rw [upd_ne (ne_of_none q' hf)]
        exact q'
      · obtain ⟨q1, q2⟩ := g.keep b u h1 h2 h3
        refine ⟨q1, ?_⟩
        rw [upd_ne]
        · exact q2
        · rintro rfl
          rcases hw with hw | hw
          · exact h3 hw
          · rw [h1] at hw; cases hw
    · exact ro_rp hf ro
  · exact p
  · exact p
end
section
variable {X : Cx} {E : EW} {a b : Expr} {pos : Pos} {ta tb : XV}
theorem of_new {e : Expr} {t : XV} (h : PE X e (lN X.K E t)) : PE X e (lE X.K E t) := pe_imp h fun _ _ _ q => lE_of_lN q

def xVar (i : Nat) : XV := fun ρ => match ρ[i]? with
  | some (.val d) => .ok d ρ
  | _ => .bad
def xC (d : D) : XV := fun ρ => .ok d ρ
/-- an owned name, given away -/
def xTake (i : Nat) : XV := fun ρ => match ρ[i]? with
  | some (.own d) => .ok d (ρ.set i .emp)
  | _ => .bad
theorem xe_var (i : Nat) {x : Str} (hN : X.N[i]? = some x := by rfl) (hv : Vis X.env.scope x := by first | exact Or.inl rfl | exact Or.inr (Or.inl rfl) | exact Or.inr (Or.inr rfl)) (hd : (x == ("__debug__" : Str)) = false := by decide)
    (hcd : (x == ("__classdict__" : Str)) = false := by decide) : PE X (.Name x pos) (lE X.K E (xVar i)) := by
  refine pe_imp (pe_var hN hv hd hcd) fun σ H Q h => ?_
  obtain ⟨F, ρ, r, p⟩ := h
  unfold Pend xVar at p
  split at p <;> rename_i e
  · split at e
    · rename_i q
      cases e
      obtain ⟨v, h1, h2⟩ := r.val q
      exact ⟨v, h1, p F H (Go.refl r) v h2⟩
    · cases e
  · split at e <;> cases e
  · exact p.elim
theorem xe_const {e : Expr} {v : V} {d : D} (h : PE X e (tC v)) (hr : ∀ F, Rp X.K F v d) : PE X e (lE X.K E (xC d)) := by
  refine pe_imp h fun σ H Q h => ?_
  obtain ⟨F, ρ, r, p⟩ := h
  exact p F H (Go.refl r) v (hr F)
theorem xe_int {i : Int} {j : Nat} : PE X (.Constant (.int i) j pos) (lE X.K E (xC (.int i))) := xe_const pe_int fun _ => .int i
theorem xe_bl {i : Bool} {j : Nat} : PE X (.Constant (.bool i) j pos) (lE X.K E (xC (.bl i))) := xe_const pe_bl fun _ => .bl i
theorem xe_str {i : Str} {j : Nat} : PE X (.Constant (.str i) j pos) (lE X.K E (xC (.str i))) := xe_const pe_str fun _ => .str i
theorem xe_non {j : Nat} : PE X (.Constant .none j pos) (lE X.K E (xC .non)) := xe_const pe_non fun _ => .non
theorem xn_take (i : Nat) {x : Str} (h0 : i ≠ 0 := by decide) (hN : X.N[i]? = some x := by rfl) (hv : Vis X.env.scope x := by first | exact Or.inl rfl | exact Or.inr (Or.inl rfl) | exact Or.inr (Or.inr rfl)) (hd : (x == ("__debug__" : Str)) = false := by decide)
    (hcd : (x == ("__classdict__" : Str)) = false := by decide) : PE X (.Name x pos) (lN X.K E (xTake i)) := by
  refine pe_imp (pe_var hN hv hd hcd) fun σ H Q h => ?_
  obtain ⟨F, ρ, r, p⟩ := h
  unfold Pend xTake at p
  split at p <;> rename_i e
  · split at e
    · rename_i d q
      injection e with e1 e2
      subst e1 e2
      obtain ⟨b, o, h1, h2, h3, h4⟩ := r.own q
      have hi : i < ρ.length := by
        cases Nat.lt_or_ge i ρ.length with
        | inl z => exact z
        | inr z => rw [List.getElem?_eq_none z] at q; cases q
      have sub : ∀ p, Own (ρ.set i .emp) σ p → Own ρ σ p ∧ (σ[i]? = some (some (V.ref p)) → False) := by
        rintro c ⟨j, e, z1, z2⟩
        have hj : i ≠ j := by
          rintro rfl
          rw [List.getElem?_set_self hi] at z1; cases z1
        rw [List.getElem?_set_ne hj] at z1
        exact ⟨⟨j, e, z1, z2⟩, fun z => hj (r.dis i j d e c q z1 z z2)⟩
      have rdn : ∀ (j : Nat) (d : D), (ρ.set i .emp)[j]? = some (.rd d) → ρ[j]? = some (.rd d) := fun j d z => by
        by_cases hj : i = j
        · subst hj
          rw [List.getElem?_set_self hi] at z; cases z
        · rw [List.getElem?_set_ne hj] at z; exact z
      refine ⟨.ref b, h1, p F H ⟨⟨r.ex, by rw [List.length_set]; exact r.len, fun j s v z1 z2 => ?_, fun j k d1 d2 c z1 z2 z3 z4 => ?_, fun j d c z1 z2 z3 => r.rdis j d c (rdn j d z1) z2 (sub c z3).1⟩, Same.refl F, fun _ _ q1 q2 _ => ⟨q1, fun _ => q2⟩, fun c z => .inl (sub c z).1, rfl, fun d z => ⟨d, by rw [List.getElem?_set_ne h0]; exact z⟩, fun j d z => ⟨rdn j d z, rfl⟩⟩ b o h2 h3 h4 (fun z => (sub b z).2 h1) (.inl ⟨i, d, q, h1⟩)⟩
      · by_cases hj : i = j
        · subst hj
          rw [List.getElem?_set_self hi] at z1
          cases z1
          exact .emp
        · rw [List.getElem?_set_ne hj] at z1
          exact r.at' j s v z1 z2
      · have g1 : i ≠ j := by
          rintro rfl
          rw [List.getElem?_set_self hi] at z1; cases z1
        have g2 : i ≠ k := by
          rintro rfl
          rw [List.getElem?_set_self hi] at z2; cases z2
        rw [List.getElem?_set_ne g1] at z1
        rw [List.getElem?_set_ne g2] at z2
        exact r.dis j k d1 d2 c z1 z2 z3 z4
    · cases e
  · split at e <;> cases e
  · exact p.elim

/-- what comes out: a value, or a new object -/
def OutV (K : PySem.W.Frag) (F H : Hp) (d : D) (Q : VK) : Prop := ∀ v F' H', Gr F H F' H' → Rp K F' v d → Q v H'
def OutN (K : PySem.W.Frag) (F H : Hp) (d : D) (Q : VK) : Prop := ∀ p o F' H', Gr F H F' H' → H p = none → F' p = none → H' p = some o → Ro K F' p o d → Q (.ref p) H'
theorem OutV.n {K : PySem.W.Frag} {F H : Hp} {d : D} {Q : VK} (h : OutV K F H d Q) : OutN K F H d Q := fun p o F' H' g hp hf hh ro => by
  have hs : Same F' (upd F' p o) := fun b u q => by rw [upd_ne (ne_of_none q hf)]; exact q
  refine h (.ref p) (upd F' p o) H' ⟨g.ex.trans hs, g.exH, fun b u q => ?_, fun b u hn h1 h2 => ?_⟩ ?_
  · by_cases hb : b = p
    · subst hb; rw [upd_same] at q; rw [hh]; exact q
    · rw [upd_ne hb] at q; exact g.sub b u q
  · rw [upd_ne (ne_of_none h1 hp)]; exact g.keep b u hn h1 h2
  · exact ro_rp hf ro
theorem OutV.here {K : PySem.W.Frag} {F H : Hp} {d : D} {Q : VK} {v : V} (h : OutV K F H d Q) (e : Same F H) (r : Rp K F v d) : Q v H := h v F H (Gr.refl e) r
theorem OutV.new {K : PySem.W.Frag} {F H : Hp} {d : D} {Q : VK} {p : Addr} {o : HO} (h : OutV K F H d Q) (e : Same F H) (hp : H p = none) (r : Rp K (upd F p o) (.ref p) d) : Q (.ref p) (upd H p o) := h _ _ _ (Gr.new e hp) r
theorem OutN.new {K : PySem.W.Frag} {F H : Hp} {d : D} {Q : VK} {p : Addr} {o : HO} (h : OutN K F H d Q) (e : Same F H) (hp : H p = none) (r : Ro K F p o d) : Q (.ref p) (upd H p o) := h p o _ _ (Gr.newO e hp) hp (e.free hp) upd_same r

def Imp1 (K : PySem.W.Frag) (f : D → Option D) (r : V → Hp → VK → Prop) : Prop := ∀ F H v x d Q, Same F H → Rp K F v x → f x = some d → OutV K F H d Q → r v H Q
def Imp2 (K : PySem.W.Frag) (f : D → D → Option D) (r : R2) : Prop := ∀ F H v w x y d Q, Same F H → Rp K F v x → Rp K F w y → f x y = some d → OutV K F H d Q → r v w H Q
def ImpL (K : PySem.W.Frag) (f : List D → Option D) (r : List V → Hp → VK → Prop) : Prop := ∀ F H vs ds d Q, Same F H → RpAll K F vs ds → f ds = some d → OutV K F H d Q → r vs H Q
def ImpLN (K : PySem.W.Frag) (f : List D → Option D) (r : List V → Hp → VK → Prop) : Prop := ∀ F H vs ds d Q, Same F H → RpAll K F vs ds → f ds = some d → OutN K F H d Q → r vs H Q
def lift {α β : Type} (f : α → Option β) : α → Rho → Res β := fun a ρ => match f a with
  | some b => .ok b ρ
  | none => .bad
def xOp1 (f : D → Option D) (ta : XV) : XV := fun ρ => (ta ρ).bind (lift f)
def xOp2 (f : D → D → Option D) (ta tb : XV) : XV := fun ρ => (ta ρ).bind fun x ρ1 => (tb ρ1).bind (lift (f x))
def xOpL (f : List D → Option D) (ta : XA) : XV := fun ρ => (ta ρ).bind (lift f)
theorem Pend.lift {α β : Type} {K : PySem.W.Frag} {σ : L2.St} {F H : Hp} {ρ : Rho} {f : α → Option β} {x : α} {Q : β → Rho → Hp → Hp → Prop} (h : Pend K E (lift f x) ρ σ F H Q) : ∃ d, f x = some d ∧ ∀ F' H', Go K ρ σ F H ρ σ F' H' → Q d ρ F' H' := by
  unfold Pend G.lift at h
  cases q : f x with
  | none => rw [q] at h; exact h.elim
  | some d => rw [q] at h; exact ⟨d, rfl, h⟩
/-- the last step's end -/
theorem outV_of {K : PySem.W.Frag} {σ : L2.St} {F H : Hp} {ρ : Rho} {d : D} {Q : VK} (r : Rel K F H ρ σ) (h : ∀ F' H', Go K ρ σ F H ρ σ F' H' → ∀ v, Rp K F' v d → Q v H') : OutV K F H d Q := fun v F' H' g rv => h F' H' (g.go r) v rv
theorem not_own_new {K : PySem.W.Frag} {σ : L2.St} {F H : Hp} {ρ : Rho} {p : Addr} (r : Rel K F H ρ σ) (hp : H p = none) : ¬ Own ρ σ p := fun ⟨i, d, h1, h2⟩ => by
  obtain ⟨b, o, e1, _, e3, _⟩ := r.own h1
  rw [h2] at e1
  cases e1
  rw [hp] at e3; cases e3
theorem outN_of {K : PySem.W.Frag} {σ : L2.St} {F0 H0 F H : Hp} {ρ0 ρ : Rho} {d : D} {Q : VK} (r0 : Rel K F0 H0 ρ0 σ) (g0 : Go K ρ0 σ F0 H0 ρ σ F H) (h : ∀ F' H', Go K ρ σ F H ρ σ F' H' → ∀ p o, F' p = none → H' p = some o → Ro K F' p o d → ¬ Own ρ σ p → (Own ρ0 σ p ∨ H0 p = none) → Q (.ref p) H') : OutN K F H d Q :=
  fun p o F' H' g hp hf hh ro => h F' H' (g.go g0.rel) p o hf hh ro (not_own_new g0.rel hp) (by
    cases q : H0 p with
    | none => exact .inr rfl
    | some u =>
      by_cases hw : Own ρ0 σ p
      · exact .inl hw
      · have := g0.sameH r0 q hw
        rw [hp] at this; cases this)
theorem xe_op2R {op : Operator} {f : D → D → Option D} {r : R2} (ho : OpR X (binaryOp op) r) (hi : Imp2 X.K f r) (ha : PE X a (lE X.K E ta)) (hb : PE X b (lE X.K E tb)) : PE X (.BinOp a op b pos) (lE X.K E (xOp2 f ta tb)) := by
  refine pe_imp (pe_op ho ha hb) fun σ H Q h => ?_
  obtain ⟨F, ρ, r, p⟩ := h
  refine ⟨F, ρ, r, (Pend.bind r p).mono fun x ρ1 F1 H1 g1 q v rv => ⟨F1, ρ1, g1.rel, (Pend.bind g1.rel q).mono fun y ρ2 F2 H2 g2 q w rw => ?_⟩⟩
  obtain ⟨d, e, q⟩ := q.lift
  exact hi F2 H2 v w x y d Q g2.rel.ex (rv.mono g2.ex) rw e (outV_of g2.rel q)
theorem xe_un {op : UnaryOp} {f : D → Option D} {r : V → Hp → VK → Prop} (ho : UnR X (unaryOp op) r) (hi : Imp1 X.K f r) (ha : PE X a (lE X.K E ta)) : PE X (.UnaryOp op a pos) (lE X.K E (xOp1 f ta)) := by
  refine pe_imp (pe_un ho ha) fun σ H Q h => ?_
  obtain ⟨F, ρ, r, p⟩ := h
  refine ⟨F, ρ, r, (Pend.bind r p).mono fun x ρ1 F1 H1 g1 q v rv => ?_⟩
  obtain ⟨d, e, q⟩ := q.lift
  exact hi F1 H1 v x d Q g1.rel.ex rv e (outV_of g1.rel q)
theorem xe_cmp {op : CmpOp} {f : D → D → Option D} {r : R2} (ho : OpR X (compareOp op) r) (hi : Imp2 X.K f r) (ha : PE X a (lE X.K E ta)) (hb : PE X b (lE X.K E tb)) (hm : behindInMarks op b = false) : PE X (.Compare a [op] [b] pos) (lE X.K E (xOp2 f ta tb)) := by
  refine pe_imp (pe_cmpR ho ha hb hm) fun σ H Q h => ?_
  obtain ⟨F, ρ, r, p⟩ := h
  refine ⟨F, ρ, r, (Pend.bind r p).mono fun x ρ1 F1 H1 g1 q v rv => ⟨F1, ρ1, g1.rel, (Pend.bind g1.rel q).mono fun y ρ2 F2 H2 g2 q w rw => ?_⟩⟩
  obtain ⟨d, e, q⟩ := q.lift
  exact hi F2 H2 v w x y d Q g2.rel.ex (rv.mono g2.ex) rw e (outV_of g2.rel q)
theorem xe_ixR {f : D → D → Option D} {r : R2} (ho : IxR X r) (hi : Imp2 X.K f r) (ha : PE X a (lE X.K E ta)) (hb : PE X b (lE X.K E tb)) (hs : PlainIx b) : PE X (.Subscript a b pos) (lE X.K E (xOp2 f ta tb)) := by
  refine pe_imp (pe_ix ho ha hb hs) fun σ H Q h => ?_
  obtain ⟨F, ρ, r, p⟩ := h
  refine ⟨F, ρ, r, (Pend.bind r p).mono fun x ρ1 F1 H1 g1 q v rv => ⟨F1, ρ1, g1.rel, (Pend.bind g1.rel q).mono fun y ρ2 F2 H2 g2 q w rw => ?_⟩⟩
  obtain ⟨d, e, q⟩ := q.lift
  exact hi F2 H2 v w x y d Q g2.rel.ex (rv.mono g2.ex) rw e (outV_of g2.rel q)

def xNil : XA := fun ρ => .ok [] ρ
def xCons (ta : XV) (tr : XA) : XA := fun ρ => (ta ρ).bind fun x ρ1 => (tr ρ1).bind fun xs ρ2 => .ok (x :: xs) ρ2
theorem xa_nil : PA X [] (lA X.K E xNil) := pa_imp pa_nil fun σ H Q h => by
  obtain ⟨F, ρ, r, p⟩ := h
  exact p F H (Go.refl r) [] .nil
theorem xa_cons {e : Expr} {es : List Expr} {tr : XA} (ha : PE X e (lE X.K E ta)) (hr : PA X es (lA X.K E tr)) (hs : starEach (e :: es) X.env = (false, eval e X.env) :: starEach es X.env := by rfl) : PA X (e :: es) (lA X.K E (xCons ta tr)) := by
  refine pa_imp (pa_cons ha hr hs) fun σ H Q h => ?_
  obtain ⟨F, ρ, r, p⟩ := h
  refine ⟨F, ρ, r, (Pend.bind r p).mono fun x ρ1 F1 H1 g1 q v rv => ⟨F1, ρ1, g1.rel, (Pend.bind g1.rel q).mono fun xs ρ2 F2 H2 g2 q vs rs => ?_⟩⟩
  exact q F2 H2 (Go.refl g2.rel) (v :: vs) (.cons (rv.mono g2.ex) rs)
def dTup (ds : List D) : Option D := if ds.length ≤ sizeLine then some (.tup ds) else none
def dLst (ds : List D) : Option D := if ds.length ≤ sizeLine then some (.lst ds) else none
theorem xe_tup {es : List Expr} {t : XA} {k : Nat} (h : PA X es (lA X.K E t)) : PE X (.Tuple es k pos) (lE X.K E (xOpL dTup t)) := by
  refine pe_imp (pe_tup h) fun σ H Q h => ?_
  obtain ⟨F, ρ, r, p⟩ := h
  refine ⟨F, ρ, r, (Pend.bind r p).mono fun xs ρ1 F1 H1 g1 q vs rs => ?_⟩
  obtain ⟨d, e, q⟩ := q.lift
  unfold dTup at e
  split at e
  · cases e
    rename_i hl
    refine ⟨by rw [rs.length]; exact hl, fun b hb => ?_⟩
    exact (outV_of g1.rel q).new g1.rel.ex hb (.tup upd_same (rs.mono (Gr.new (o := .tup vs) g1.rel.ex hb).ex))
  · cases e
theorem xn_lst {es : List Expr} {t : XA} (h : PA X es (lA X.K E t)) : PE X (.List es pos) (lN X.K E (xOpL dLst t)) := by
  refine pe_imp (pe_lst h) fun σ H Q h => ?_
  obtain ⟨F, ρ, r, p⟩ := h
  refine ⟨F, ρ, r, (Pend.bind r p).mono fun xs ρ1 F1 H1 g1 q vs rs => ?_⟩
  obtain ⟨d, e, q⟩ := q.lift
  unfold dLst at e
  split at e
  · cases e
    rename_i hl
    refine ⟨by rw [rs.length]; exact hl, fun b hb => ?_⟩
    exact (outN_of r g1 q).new g1.rel.ex hb (.lst rs)
  · cases e
/-- built-ins by name -/
theorem xe_callB {id : String} {x : Str} {p : Pos} {e : Expr} {es : List Expr} {t : XA} {f : List D → Option D} {r : List V → Hp → VK → Prop} (hc : CallR X (.builtin id) r) (hi : ImpL X.K f r) (hg : Gl X x) (hm : X.mg x = none) (hv : bootBuiltins x = some (.builtin id)) (ha : PA X (e :: es) (lA X.K E t)) (hn : x ≠ "__name__" := by decide) (hdb : (x == ("__debug__" : Str)) = false := by decide)
    (he : starEach (e :: es) X.env = (false, eval e X.env) :: starEach es X.env := by rfl) (hpl : (backTo pos (starEach es X.env)).any (·.1) = false := by rfl) : PE X (.Call (.Name x p) (e :: es) [] pos) (lE X.K E (xOpL f t)) := by
  refine pe_imp (pe_callB hc hg hm hv ha hn hdb he hpl) fun σ H Q h => ?_
  obtain ⟨F, ρ, r, p⟩ := h
  refine ⟨F, ρ, r, (Pend.bind r p).mono fun xs ρ1 F1 H1 g1 q vs rs => ?_⟩
  obtain ⟨d, e, q⟩ := q.lift
  exact hi F1 H1 vs xs d Q g1.rel.ex rs e (outV_of g1.rel q)
theorem xe_callT {T : String} {x : Str} {p : Pos} {e : Expr} {es : List Expr} {t : XA} {f : List D → Option D} {r : List V → Hp → VK → Prop} (hc : CallR X (.type T) r) (hi : ImpL X.K f r) (hg : Gl X x) (hm : X.mg x = none) (hv : bootBuiltins x = some (.type T)) (ha : PA X (e :: es) (lA X.K E t)) (hn : x ≠ "__name__" := by decide) (hdb : (x == ("__debug__" : Str)) = false := by decide)
    (he : starEach (e :: es) X.env = (false, eval e X.env) :: starEach es X.env := by rfl) (hpl : (backTo pos (starEach es X.env)).any (·.1) = false := by rfl) : PE X (.Call (.Name x p) (e :: es) [] pos) (lE X.K E (xOpL f t)) := by
  refine pe_imp (pe_callTy hc hg hm hv ha hn hdb he hpl) fun σ H Q h => ?_
  obtain ⟨F, ρ, r, p⟩ := h
  refine ⟨F, ρ, r, (Pend.bind r p).mono fun xs ρ1 F1 H1 g1 q vs rs => ?_⟩
  obtain ⟨d, e, q⟩ := q.lift
  exact hi F1 H1 vs xs d Q g1.rel.ex rs e (outV_of g1.rel q)
theorem xn_callT {T : String} {x : Str} {p : Pos} {e : Expr} {es : List Expr} {t : XA} {f : List D → Option D} {r : List V → Hp → VK → Prop} (hc : CallR X (.type T) r) (hi : ImpLN X.K f r) (hg : Gl X x) (hm : X.mg x = none) (hv : bootBuiltins x = some (.type T)) (ha : PA X (e :: es) (lA X.K E t)) (hn : x ≠ "__name__" := by decide) (hdb : (x == ("__debug__" : Str)) = false := by decide)
    (he : starEach (e :: es) X.env = (false, eval e X.env) :: starEach es X.env := by rfl) (hpl : (backTo pos (starEach es X.env)).any (·.1) = false := by rfl) : PE X (.Call (.Name x p) (e :: es) [] pos) (lN X.K E (xOpL f t)) := by
  refine pe_imp (pe_callTy hc hg hm hv ha hn hdb he hpl) fun σ H Q h => ?_
  obtain ⟨F, ρ, r, p⟩ := h
  refine ⟨F, ρ, r, (Pend.bind r p).mono fun xs ρ1 F1 H1 g1 q vs rs => ?_⟩
  obtain ⟨d, e, q⟩ := q.lift
  exact hi F1 H1 vs xs d Q g1.rel.ex rs e (outN_of r g1 q)

def xTest (t : XV) : XT := fun ρ => (t ρ).bind fun x ρ1 => match x with
  | .bl b => .ok b ρ1
  | _ => .bad
def xAnd (t u : XT) : XT := fun ρ => (t ρ).bind fun b ρ1 => if b = true then u ρ1 else .ok false ρ1
def xOr (t u : XT) : XT := fun ρ => (t ρ).bind fun b ρ1 => if b = true then .ok true ρ1 else u ρ1
def xNot (t : XT) : XT := fun ρ => (t ρ).bind fun b ρ1 => .ok (!b) ρ1
theorem bl_of {K : PySem.W.Frag} {σ : L2.St} {F H : Hp} {ρ : Rho} {x : D} {v : V} {Q : Bool → Rho → Hp → Hp → Prop} (r : Rel K F H ρ σ) (rv : Rp K F v x) (h : Pend K E (fun ρ1 => match x with | .bl b => (.ok b ρ1 : Res Bool) | _ => .bad) ρ σ F H Q) : ∃ c, v = .bl c ∧ Q c ρ F H := by
  unfold Pend at h
  cases x with
  | bl b => cases rv; exact ⟨b, rfl, h F H (Go.refl r)⟩
  | non => exact h.elim
  | int _ => exact h.elim
  | str _ => exact h.elim
  | ty _ => exact h.elim
  | tup _ => exact h.elim
  | lst _ => exact h.elim
  | fix _ => exact h.elim
  | dicK _ _ => exact h.elim
  | dicT _ _ => exact h.elim
  | dicN _ _ => exact h.elim
  | exn _ => exact h.elim
  | inst _ _ => exact h.elim
  | _ => exact h.elim
theorem xt_val {e : Expr} {t : XV} (h : PE X e (lE X.K E t)) (he : ∀ whole, isTrue e X.env whole = (do let v ← whole; standAt e.pos; holding [v] (truthy v)) := by intro _; rfl) : PT X e (lT X.K E (xTest t)) := by
  refine pt_imp (pt_val h he) fun σ H Q h => ?_
  obtain ⟨F, ρ, r, p⟩ := h
  refine ⟨F, ρ, r, (Pend.bind r p).mono fun x ρ1 F1 H1 g1 q v rv => ?_⟩
  obtain ⟨c, e, q⟩ := bl_of g1.rel rv q
  exact ⟨c, e, q⟩
theorem xt_cmp {op : CmpOp} {f : D → D → Option D} {r : R2} (ho : OpR X (compareOp op) r) (hi : Imp2 X.K f r) (ha : PE X a (lE X.K E ta)) (hb : PE X b (lE X.K E tb)) (hm : behindInMarks op b = false) : PT X (.Compare a [op] [b] pos) (lT X.K E (xTest (xOp2 f ta tb))) := by
  refine pt_imp (pt_cmpR ho ha hb hm) fun σ H Q h => ?_
  obtain ⟨F, ρ, r, p⟩ := h
  have p := Pend.bind r p
  refine ⟨F, ρ, r, (Pend.bind r p).mono fun x ρ1 F1 H1 g1 q v rv => ⟨F1, ρ1, g1.rel, (Pend.bind g1.rel q).mono fun y ρ2 F2 H2 g2 q w rw => ?_⟩⟩
  obtain ⟨d, e, q⟩ := q.lift
  refine hi F2 H2 v w x y d _ g2.rel.ex (rv.mono g2.ex) rw e fun u F3 H3 g3 ru => ?_
  obtain ⟨c, e, q⟩ := bl_of (g3.go g2.rel).rel ru (q F3 H3 (g3.go g2.rel))
  exact ⟨c, e, q⟩
theorem xw_and1 {tA : XT} (ha : PT X a (lT X.K E tA)) : PW X (.BoolOp .And [a] pos) (lT X.K E tA) := pw_and1 ha
theorem xw_or1 {tA : XT} (ha : PT X a (lT X.K E tA)) : PW X (.BoolOp .Or [a] pos) (lT X.K E tA) := pw_or1 ha
theorem pw_imp {e : Expr} {t t' : TT} (h : PW X e t) (k : ∀ σ H Q, t' σ H Q → t σ H Q) : PW X e t' := ⟨fun wh pins s σ H Q I q => h.run wh pins s σ H Q I (k σ H Q q)⟩
theorem xw_and {tA tB : XT} {rest : List Expr} (ha : PT X a (lT X.K E tA)) (hb : PW X (.BoolOp .And (b :: rest) pos) (lT X.K E tB)) : PW X (.BoolOp .And (a :: b :: rest) pos) (lT X.K E (xAnd tA tB)) := by
  refine pw_imp (pw_and ha hb) fun σ H Q h => ?_
  obtain ⟨F, ρ, r, p⟩ := h
  refine ⟨F, ρ, r, (Pend.bind r p).mono fun c ρ1 F1 H1 g1 q => ?_⟩
  cases c with
  | true => exact ⟨F1, ρ1, g1.rel, q⟩
  | false => exact q F1 H1 (Go.refl g1.rel)
theorem xw_or {tA tB : XT} {rest : List Expr} (ha : PT X a (lT X.K E tA)) (hb : PW X (.BoolOp .Or (b :: rest) pos) (lT X.K E tB)) : PW X (.BoolOp .Or (a :: b :: rest) pos) (lT X.K E (xOr tA tB)) := by
  refine pw_imp (pw_or ha hb) fun σ H Q h => ?_
  obtain ⟨F, ρ, r, p⟩ := h
  refine ⟨F, ρ, r, (Pend.bind r p).mono fun c ρ1 F1 H1 g1 q => ?_⟩
  cases c with
  | false => exact ⟨F1, ρ1, g1.rel, q⟩
  | true => exact q F1 H1 (Go.refl g1.rel)
theorem xt_not {tA : XT} (ha : PT X a (lT X.K E tA)) : PT X (.UnaryOp .Not a pos) (lT X.K E (xNot tA)) := by
  refine pt_imp (pt_not ha) fun σ H Q h => ?_
  obtain ⟨F, ρ, r, p⟩ := h
  exact ⟨F, ρ, r, (Pend.bind r p).mono fun c ρ1 F1 H1 g1 q => q F1 H1 (Go.refl g1.rel)⟩
/-- and, or, not as values -/
def xAndV (t u : XV) : XV := fun ρ => (xTest t ρ).bind fun b ρ1 => if b = true then u ρ1 else .ok (.bl false) ρ1
def xOrV (t u : XV) : XV := fun ρ => (xTest t ρ).bind fun b ρ1 => if b = true then .ok (.bl true) ρ1 else u ρ1
def xNotV (t : XV) : XV := fun ρ => (xTest t ρ).bind fun b ρ1 => .ok (.bl (!b)) ρ1
theorem xe_one {op : BoolOp} {t : XV} (h : PE X a (lE X.K E t)) : PE X (.BoolOp op [a] pos) (lE X.K E t) := pe_one h
theorem xe_and {rest : List Expr} (ha : PE X a (lE X.K E ta)) (hb : PE X (.BoolOp .And (b :: rest) pos) (lE X.K E tb)) : PE X (.BoolOp .And (a :: b :: rest) pos) (lE X.K E (xAndV ta tb)) := by
  refine pe_imp (pe_and ha hb) fun σ H Q h => ?_
  obtain ⟨F, ρ, r, p⟩ := h
  have p := Pend.bind r p
  refine ⟨F, ρ, r, (Pend.bind r p).mono fun x ρ1 F1 H1 g1 q v rv => ?_⟩
  obtain ⟨c, e, q⟩ := bl_of g1.rel rv q
  refine ⟨c, e, ?_⟩
  cases c with
  | true => exact ⟨F1, ρ1, g1.rel, q⟩
  | false => exact q F1 H1 (Go.refl g1.rel) _ (.bl _)
theorem xe_or {rest : List Expr} (ha : PE X a (lE X.K E ta)) (hb : PE X (.BoolOp .Or (b :: rest) pos) (lE X.K E tb)) : PE X (.BoolOp .Or (a :: b :: rest) pos) (lE X.K E (xOrV ta tb)) := by
  refine pe_imp (pe_or ha hb) fun σ H Q h => ?_
  obtain ⟨F, ρ, r, p⟩ := h
  have p := Pend.bind r p
  refine ⟨F, ρ, r, (Pend.bind r p).mono fun x ρ1 F1 H1 g1 q v rv => ?_⟩
  obtain ⟨c, e, q⟩ := bl_of g1.rel rv q
  refine ⟨c, e, ?_⟩
  cases c with
  | false => exact ⟨F1, ρ1, g1.rel, q⟩
  | true => exact q F1 H1 (Go.refl g1.rel) _ (.bl _)
theorem xe_not (ha : PE X a (lE X.K E ta)) : PE X (.UnaryOp .Not a pos) (lE X.K E (xNotV ta)) := by
  refine pe_imp (pe_not ha) fun σ H Q h => ?_
  obtain ⟨F, ρ, r, p⟩ := h
  have p := Pend.bind r p
  refine ⟨F, ρ, r, (Pend.bind r p).mono fun x ρ1 F1 H1 g1 q v rv => ?_⟩
  obtain ⟨c, e, q⟩ := bl_of g1.rel rv q
  exact ⟨c, e, q F1 H1 (Go.refl g1.rel) _ (.bl _)⟩
def xIf (t : XT) (ta tb : XV) : XV := fun ρ => (t ρ).bind fun b ρ1 => if b = true then ta ρ1 else tb ρ1
end
end G


namespace G
open PySem PySem.Spec PyProof.Rows L2

inductive Fl where
  | nx (ρ : Rho) | ret (d : D) (ρ : Rho) | brk (ρ : Rho) | cnt (ρ : Rho) | exc (c : String) (ρ : Rho) | bad
abbrev XS := Rho → Fl
def Res.fl {α : Type} (r : Res α) (f : α → Rho → Fl) : Fl := match r with
  | .ok a ρ => f a ρ
  | .exc c ρ => .exc c ρ
  | .bad => .bad
def Fl.seq (r : Fl) (f : XS) : Fl := match r with
  | .nx ρ => f ρ
  | .ret d ρ => .ret d ρ
  | .brk ρ => .brk ρ
  | .cnt ρ => .cnt ρ
  | .exc c ρ => .exc c ρ
  | .bad => .bad

section
variable (K : PySem.W.Frag) (E : EW) (fr : Bool)
def RetP (d : D) (ρ : Rho) (σ : L2.St) (F H : Hp) (ρ' : Rho) (rt : VK) : Prop :=
  (fr = false → ∀ v σ' F' H', Go K ρ σ F H ρ' σ' F' H' → Rp K F' v d → rt v H') ∧
  (fr = true → ∀ p o σ' F' H', Go K ρ σ F H ρ' σ' F' H' → F' p = none → H' p = some o → Ro K F' p o d → ¬ Own ρ' σ' p → (Own ρ σ p ∨ H p = none) → rt (.ref p) H')
def PendS (t : XS) (ρ : Rho) (σ : L2.St) (F H : Hp) (C : Ends) : Prop := match t ρ with
  | .nx ρ' => ∀ σ' F' H', Go K ρ σ F H ρ' σ' F' H' → C.nx σ' H'
  | .ret d ρ' => RetP K fr d ρ σ F H ρ' C.rt
  | .brk ρ' => ∀ σ' F' H', Go K ρ σ F H ρ' σ' F' H' → C.bk σ' H'
  | .cnt ρ' => ∀ σ' F' H', Go K ρ σ F H ρ' σ' F' H' → C.ct σ' H'
  | .exc c ρ' => ∀ σ' F' H', Go K ρ σ F H ρ' σ' F' H' → E c σ' H'
  | .bad => False
def lS (t : XS) : TS := fun C σ H => ∃ F ρ, Rel K F H ρ σ ∧ PendS K E fr t ρ σ F H C
end
section
variable {K : PySem.W.Frag} {E : EW} {fr : Bool} {σ σ1 : L2.St} {F H F1 H1 : Hp} {ρ ρ1 : Rho} {C : Ends}
theorem own_back (r : Rel K F H ρ σ) (g : Go K ρ σ F H ρ1 σ1 F1 H1) {p : Addr} (h : Own ρ1 σ1 p ∨ H1 p = none) : Own ρ σ p ∨ H p = none := by
  rcases h with h | h
  · exact g.own p h
  · cases q : H p with
    | none => exact .inr rfl
    | some u =>
      by_cases hw : Own ρ σ p
      · exact .inl hw
      · have := g.sameH r q hw
        rw [h] at this; cases this
theorem RetP.go {d : D} {ρ' : Rho} {rt : VK} (r : Rel K F H ρ σ) (g : Go K ρ σ F H ρ1 σ1 F1 H1) (h : RetP K fr d ρ σ F H ρ' rt) : RetP K fr d ρ1 σ1 F1 H1 ρ' rt :=
  ⟨fun e v σ' F' H' g' rv => h.1 e v σ' F' H' (g.trans r g') rv, fun e p o σ' F' H' g' h1 h2 h3 h4 h5 => h.2 e p o σ' F' H' (g.trans r g') h1 h2 h3 h4 (own_back r g h5)⟩
/-- an expression, then the rest -/
theorem PendS.fl {α : Type} {t : Rho → Res α} {f : α → Rho → Fl} (r : Rel K F H ρ σ) (h : PendS K E fr (fun ρ => (t ρ).fl f) ρ σ F H C) :
    Pend K E t ρ σ F H fun a ρ1 F1 H1 => PendS K E fr (f a) ρ1 σ F1 H1 C := by
  unfold PendS at h
  unfold Pend
  split <;> rename_i e <;> simp only [e, Res.fl] at h
  · intro F1 H1 g
    unfold PendS
    split <;> rename_i e2 <;> rw [e2] at h
    · exact fun σ2 F2 H2 g2 => h σ2 F2 H2 (g.trans r g2)
    · exact RetP.go r g h
    · exact fun σ2 F2 H2 g2 => h σ2 F2 H2 (g.trans r g2)
    · exact fun σ2 F2 H2 g2 => h σ2 F2 H2 (g.trans r g2)
    · exact fun σ2 F2 H2 g2 => h σ2 F2 H2 (g.trans r g2)
    · exact h
  · exact fun F' H' g => h σ F' H' g
theorem PendS.seq {t u : XS} (r : Rel K F H ρ σ) (h : PendS K E fr (fun ρ => (t ρ).seq u) ρ σ F H C) : PendS K E fr t ρ σ F H { C with nx := lS K E fr u C } := by
  unfold PendS at h ⊢
  split <;> rename_i e <;> simp only [e, Fl.seq] at h
  · intro σ1 F1 H1 g
    refine ⟨F1, _, g.rel, ?_⟩
    unfold PendS
    split <;> rename_i e2 <;> rw [e2] at h
    · exact fun σ2 F2 H2 g2 => h σ2 F2 H2 (g.trans r g2)
    · exact RetP.go r g h
    · exact fun σ2 F2 H2 g2 => h σ2 F2 H2 (g.trans r g2)
    · exact fun σ2 F2 H2 g2 => h σ2 F2 H2 (g.trans r g2)
    · exact fun σ2 F2 H2 g2 => h σ2 F2 H2 (g.trans r g2)
    · exact h
  · exact h
  · exact h
  · exact h
  · exact h
theorem PendS.nx {ρ' : Rho} (h : PendS K E fr (fun _ => .nx ρ') ρ σ F H C) (g : Go K ρ σ F H ρ' σ1 F1 H1) : C.nx σ1 H1 := h σ1 F1 H1 g
/-- the same work behind a step -/
theorem PendS.go {t : XS} (r : Rel K F H ρ σ) (g : Go K ρ σ F H ρ1 σ1 F1 H1) (h : PendS K E fr (fun _ => t ρ1) ρ σ F H C) : PendS K E fr t ρ1 σ1 F1 H1 C := by
  unfold PendS at h ⊢
  split <;> rename_i e2 <;> rw [e2] at h
  · exact fun σ2 F2 H2 g2 => h σ2 F2 H2 (g.trans r g2)
  · exact RetP.go r g h
  · exact fun σ2 F2 H2 g2 => h σ2 F2 H2 (g.trans r g2)
  · exact fun σ2 F2 H2 g2 => h σ2 F2 H2 (g.trans r g2)
  · exact fun σ2 F2 H2 g2 => h σ2 F2 H2 (g.trans r g2)
  · exact h

theorem get_set {α : Type} {l : List α} {i j : Nat} {x y : α} (h : (l.set i x)[j]? = some y) : (i = j ∧ y = x) ∨ (i ≠ j ∧ l[j]? = some y) := by
  by_cases e : i = j
  · subst e
    refine .inl ⟨rfl, ?_⟩
    by_cases hl : i < l.length
    · rw [List.getElem?_set_self hl] at h
      exact (Option.some.inj h).symm
    · rw [List.getElem?_eq_none (by rw [List.length_set]; omega)] at h
      cases h
  · rw [List.getElem?_set_ne e] at h
    exact .inr ⟨e, h⟩
theorem own_set_val {i : Nat} {s : Slot} {o : Option V} (hs : ∀ d, s ≠ .own d) {p : Addr} (h : Own (ρ.set i s) (σ.set i o) p) : Own ρ σ p := by
  obtain ⟨j, d, h1, h2⟩ := h
  rcases get_set h1 with ⟨_, e⟩ | ⟨hj, h1⟩
  · exact absurd e.symm (hs d)
  · rcases get_set h2 with ⟨e, _⟩ | ⟨_, h2⟩
    · exact absurd e hj
    · exact ⟨j, d, h1, h2⟩
theorem Go.setVal {i : Nat} {v : V} {d : D} (h0 : i ≠ 0) (r : Rel K F H ρ σ) (rv : Rp K F v d) : Go K ρ σ F H (ρ.set i (.val d)) (σ.set i (some v)) F H where
  rel := by
    refine ⟨r.ex, by rw [List.length_set, List.length_set]; exact r.len, fun j s o h1 h2 => ?_, fun j k d1 d2 p h1 h2 h3 h4 => ?_, fun j d1 p h1 h2 h3 => ?_⟩
    rotate_right
    · rcases get_set h1 with ⟨_, q⟩ | ⟨hj, h1⟩
      · cases q
      · rcases get_set h2 with ⟨e, _⟩ | ⟨_, h2⟩
        · exact absurd e hj
        · exact r.rdis j d1 p h1 h2 (own_set_val (fun _ z => by cases z) h3)
    · rcases get_set h1 with ⟨e, rfl⟩ | ⟨hj, h1⟩
      · rcases get_set h2 with ⟨_, rfl⟩ | ⟨hj, _⟩
        · exact .val rv
        · exact absurd e hj
      · rcases get_set h2 with ⟨e, _⟩ | ⟨_, h2⟩
        · exact absurd e hj
        · exact r.at' j s o h1 h2
    · rcases get_set h1 with ⟨_, q⟩ | ⟨hj, h1⟩
      · cases q
      · rcases get_set h2 with ⟨_, q⟩ | ⟨hk, h2⟩
        · cases q
        · rcases get_set h3 with ⟨q, _⟩ | ⟨_, h3⟩
          · exact absurd q hj
          · rcases get_set h4 with ⟨q, _⟩ | ⟨_, h4⟩
            · exact absurd q hk
            · exact r.dis j k d1 d2 p h1 h2 h3 h4
  ex := Same.refl F
  keep := fun _ _ h1 h2 _ => ⟨h1, fun _ => h2⟩
  own := fun p h => .inl (own_set_val (fun _ z => by cases z) h)
  low := List.getElem?_set_ne h0
  lowO := fun d h => ⟨d, by rw [List.getElem?_set_ne h0]; exact h⟩
  rdb := fun j e h => by
    rcases get_set h with ⟨_, q⟩ | ⟨hj, h⟩
    · cases q
    · exact ⟨h, List.getElem?_set_ne hj⟩
theorem Rel.setOwn {i : Nat} {p : Addr} {o : HO} {d : D} (r : Rel K F H ρ σ) (h1 : F p = none) (h2 : H p = some o) (h3 : Ro K F p o d) (hn : ¬ Own ρ σ p) (hrd : ∀ (j : Nat) (e : D), ρ[j]? = some (.rd e) → σ[j]? = some (some (.ref p)) → False) : Rel K F H (ρ.set i (.own d)) (σ.set i (some (.ref p))) := by
  refine ⟨r.ex, by rw [List.length_set, List.length_set]; exact r.len, fun j s o g1 g2 => ?_, fun j k d1 d2 q g1 g2 g3 g4 => ?_, fun j d1 q g1 g2 g3 => ?_⟩
  rotate_right
  · rcases get_set g1 with ⟨_, z⟩ | ⟨hj, g1⟩
    · cases z
    · rcases get_set g2 with ⟨e, _⟩ | ⟨_, g2⟩
      · exact absurd e hj
      · obtain ⟨k, e, k1, k2⟩ := g3
        rcases get_set k2 with ⟨ek, ek2⟩ | ⟨hk, k2⟩
        · cases ek2
          exact hrd j d1 g1 g2
        · rcases get_set k1 with ⟨ek, _⟩ | ⟨_, k1⟩
          · exact absurd ek hk
          · exact r.rdis j d1 q g1 g2 ⟨k, e, k1, k2⟩
  · rcases get_set g1 with ⟨e, rfl⟩ | ⟨hj, g1⟩
    · rcases get_set g2 with ⟨_, rfl⟩ | ⟨hj, _⟩
      · exact .own h1 h2 h3
      · exact absurd e hj
    · rcases get_set g2 with ⟨e, _⟩ | ⟨_, g2⟩
      · exact absurd e hj
      · exact r.at' j s _ g1 g2
  · rcases get_set g1 with ⟨ej, _⟩ | ⟨hj, g1⟩
    · rcases get_set g2 with ⟨ek, _⟩ | ⟨hk, g2⟩
      · exact ej.symm.trans ek
      · rcases get_set g3 with ⟨_, e3⟩ | ⟨z, _⟩
        · cases e3
          rcases get_set g4 with ⟨q, _⟩ | ⟨_, g4⟩
          · exact absurd q hk
          · exact absurd ⟨k, d2, g2, g4⟩ hn
        · exact absurd ej z
    · rcases get_set g2 with ⟨ek, _⟩ | ⟨hk, g2⟩
      · rcases get_set g4 with ⟨_, e4⟩ | ⟨z, _⟩
        · cases e4
          rcases get_set g3 with ⟨q, _⟩ | ⟨_, g3⟩
          · exact absurd q hj
          · exact absurd ⟨j, d1, g1, g3⟩ hn
        · exact absurd ek z
      · rcases get_set g3 with ⟨q, _⟩ | ⟨_, g3⟩
        · exact absurd q hj
        · rcases get_set g4 with ⟨q, _⟩ | ⟨_, g4⟩
          · exact absurd q hk
          · exact r.dis j k d1 d2 q g1 g2 g3 g4
/-- behind an expression that gave a new object, it is stored -/
theorem Go.setOwn {i : Nat} {p : Addr} {o : HO} {d : D} (h0 : i ≠ 0) (r : Rel K F H ρ σ) (g : Go K ρ σ F H ρ1 σ F1 H1) (h1 : F1 p = none) (h2 : H1 p = some o) (h3 : Ro K F1 p o d) (hn : ¬ Own ρ1 σ p) (hw : Own ρ σ p ∨ H p = none) :
    Go K ρ σ F H (ρ1.set i (.own d)) (σ.set i (some (.ref p))) F1 H1 where
  rel := g.rel.setOwn h1 h2 h3 hn fun j e k1 k2 => by
    obtain ⟨k3, k4⟩ := g.rdb j e k1
    rw [k4] at k2
    rcases hw with hw | hw
    · exact r.rdis j e p k3 k2 hw
    · have z := g.rel.at' j _ _ k1 (k4.trans k2)
      have z0 := r.at' j _ _ k3 k2
      cases z0 with
      | rd ra =>
        cases ra with
        | own _ y _ => rw [hw] at y; cases y
        | val rp nf => exact rp_at rp nf (r.ex.free hw)
  ex := g.ex
  keep := g.keep
  own := fun q h => by
    obtain ⟨j, e, q1, q2⟩ := h
    rcases get_set q2 with ⟨ej, z⟩ | ⟨hj, q2⟩
    · cases z
      exact hw
    · rcases get_set q1 with ⟨ej, _⟩ | ⟨_, q1⟩
      · exact absurd ej hj
      · exact g.own q ⟨j, e, q1, q2⟩
  low := List.getElem?_set_ne h0
  lowO := fun d h => by
    obtain ⟨d', h'⟩ := g.lowO d h
    exact ⟨d', by rw [List.getElem?_set_ne h0]; exact h'⟩
  rdb := fun j e h => by
    rcases get_set h with ⟨_, q⟩ | ⟨hj, h⟩
    · cases q
    · obtain ⟨k1, k2⟩ := g.rdb j e h
      exact ⟨k1, (List.getElem?_set_ne hj).trans k2⟩
/-- an owned object is changed -/
theorem Go.mut {i : Nat} {p : Addr} {o o' : HO} {d d' : D} (r : Rel K F H ρ σ) (hi : ρ[i]? = some (.own d)) (hs : σ[i]? = some (some (.ref p))) (h1 : F p = none) (h2 : H p = some o) (h3 : Ro K F p o' d') :
    Go K ρ σ F H (ρ.set i (.own d')) σ F (upd H p o') where
  rel := by
    refine ⟨fun b u q => by rw [upd_ne (ne_of_none q h1)]; exact r.ex b u q, by rw [List.length_set]; exact r.len, fun j s v g1 g2 => ?_, fun j k d1 d2 q g1 g2 g3 g4 => ?_, fun j d1 q g1 g2 g3 => ?_⟩
    rotate_right
    · rcases get_set g1 with ⟨_, z⟩ | ⟨hj, g1⟩
      · cases z
      · refine r.rdis j d1 q g1 g2 ?_
        obtain ⟨k, e, k1, k2⟩ := g3
        rcases get_set k1 with ⟨ek, _⟩ | ⟨_, k1⟩
        · subst ek; exact ⟨_, d, hi, k2⟩
        · exact ⟨k, e, k1, k2⟩
    · rcases get_set g1 with ⟨e, rfl⟩ | ⟨hj, g1⟩
      · subst e
        rw [hs] at g2
        cases g2
        exact .own h1 upd_same h3
      · have z := r.at' j s v g1 g2
        cases z with
        | emp => exact .emp
        | adr => exact .adr
        | val rp => exact .val rp
        | own z1 z2 z3 =>
          refine .own z1 ?_ z3
          rw [upd_ne]
          · exact z2
          · rintro rfl
            exact hj (r.dis i j _ _ _ hi g1 hs g2)
        | rd ra =>
          refine .rd (ra.step (Same.refl F) fun q u _ eq e1 e2 => ⟨?_, e2⟩)
          subst eq
          rw [upd_ne]
          · exact e1
          · rintro rfl
            exact r.rdis j _ _ g1 g2 ⟨i, d, hi, hs⟩
    · have own_of : ∀ (m : Nat) (e : D), (ρ.set i (Slot.own d'))[m]? = some (Slot.own e) → ∃ e' : D, ρ[m]? = some (Slot.own e') := fun m e h => by
        rcases get_set h with ⟨e1, _⟩ | ⟨_, h⟩
        · subst e1; exact ⟨_, hi⟩
        · exact ⟨_, h⟩
      obtain ⟨e1, q1⟩ := own_of _ _ g1
      obtain ⟨e2, q2⟩ := own_of _ _ g2
      exact r.dis j k e1 e2 q q1 q2 g3 g4
  ex := Same.refl F
  keep := fun a u g1 g2 g3 => by
    refine ⟨?_, fun _ => g2⟩
    rw [upd_ne]
    · exact g1
    · rintro rfl
      exact g3 ⟨i, d, hi, hs⟩
  own := fun q h => by
    obtain ⟨j, e, q1, q2⟩ := h
    rcases get_set q1 with ⟨e1, _⟩ | ⟨_, q1⟩
    · subst e1
      exact .inl ⟨_, d, hi, q2⟩
    · exact .inl ⟨j, e, q1, q2⟩
  low := rfl
  lowO := fun d h => by
    by_cases h0 : i = 0
    · subst h0
      exact ⟨d', by rw [List.getElem?_set_self (by cases Nat.lt_or_ge 0 ρ.length with | inl z => exact z | inr z => rw [List.getElem?_eq_none z] at h; cases h)]⟩
    · exact ⟨d, by rw [List.getElem?_set_ne h0]; exact h⟩
  rdb := fun j e h => by
    rcases get_set h with ⟨_, q⟩ | ⟨_, h⟩
    · cases q
    · exact ⟨h, rfl⟩
end

section
variable {X : Cx} {E : EW} {fr : Bool} {pos : Pos}
def xNext : XS := fun ρ => .nx ρ
def xSeq (t u : XS) : XS := fun ρ => (t ρ).seq u
theorem xs_nil : PSs X [] (lS X.K E fr xNext) := pss_imp pss_nil fun C σ H h => by
  obtain ⟨F, ρ, r, p⟩ := h
  exact p σ F H (Go.refl r)
theorem xs_cons {s : Stmt} {rest : List Stmt} {t u : XS} (h1 : PS X s (lS X.K E fr t)) (h2 : PSs X rest (lS X.K E fr u)) : PSs X (s :: rest) (lS X.K E fr (xSeq t u)) := pss_imp (pss_cons h1 h2) fun C σ H h => by
  obtain ⟨F, ρ, r, p⟩ := h
  exact ⟨F, ρ, r, p.seq r⟩
theorem xs_one {s : Stmt} {t : XS} (h1 : PS X s (lS X.K E fr t)) : PSs X [s] (lS X.K E fr t) := pss_one h1
theorem xs_pass : PS X (.Pass pos) (lS X.K E fr xNext) := ps_imp ps_pass fun C σ H h => by
  obtain ⟨F, ρ, r, p⟩ := h
  exact p σ F H (Go.refl r)
def xBrk : XS := fun ρ => .brk ρ
def xCnt : XS := fun ρ => .cnt ρ
def xDrop (te : XV) : XS := fun ρ => (te ρ).fl fun _ ρ1 => .nx ρ1
theorem xs_expr {e : Expr} {te : XV} (he : PE X e (lE X.K E te)) (hs : swapsWith e none pos.line X.env = pure false := by rfl) : PS X (.Expr e pos) (lS X.K E fr (xDrop te)) := ps_imp (ps_expr he hs) fun C σ H h => by
  obtain ⟨F, ρ, r, p⟩ := h
  exact ⟨F, ρ, r, (p.fl r).mono fun d ρ1 F1 H1 g q v rv => q σ F1 H1 (Go.refl g.rel)⟩
def xRet (te : XV) : XS := fun ρ => (te ρ).fl fun d ρ1 => .ret d ρ1
theorem xs_ret {e : Expr} {te : XV} (he : PE X e (lE X.K E te)) : PS X (.Return (some e) pos) (lS X.K E false (xRet te)) := ps_imp (ps_ret he) fun C σ H h => by
  obtain ⟨F, ρ, r, p⟩ := h
  exact ⟨F, ρ, r, (p.fl r).mono fun d ρ1 F1 H1 g q v rv => q.1 rfl v σ F1 H1 (Go.refl g.rel) rv⟩
theorem xs_retN {e : Expr} {te : XV} (he : PE X e (lN X.K E te)) : PS X (.Return (some e) pos) (lS X.K E true (xRet te)) := ps_imp (ps_ret he) fun C σ H h => by
  obtain ⟨F, ρ, r, p⟩ := h
  refine ⟨F, ρ, r, ?_⟩
  have r0 := r
  unfold PendS xRet at p
  unfold Pend
  split <;> rename_i e <;> simp only [e, Res.fl] at p
  · intro F1 H1 g b o h1 h2 h3 h4 h5
    exact p.2 rfl b o σ F1 H1 g h1 h2 h3 h4 h5
  · exact fun F1 H1 g => p σ F1 H1 g
def xIfS (t : XT) (a b : XS) : XS := fun ρ => (t ρ).fl fun c ρ1 => if c = true then a ρ1 else b ρ1
theorem xs_if {c : Expr} {a b : List Stmt} {tc : XT} {t u : XS} (hc : PT X c (lT X.K E tc)) (ha : PSs X a (lS X.K E fr t)) (hb : PSs X b (lS X.K E fr u)) : PS X (.If c a b pos) (lS X.K E fr (xIfS tc t u)) := ps_imp (ps_if hc ha hb) fun C σ H h => by
  obtain ⟨F, ρ, r, p⟩ := h
  refine ⟨F, ρ, r, (p.fl r).mono fun c ρ1 F1 H1 g q => ?_⟩
  cases c with
  | true => exact ⟨F1, ρ1, g.rel, q⟩
  | false => exact ⟨F1, ρ1, g.rel, q⟩

abbrev XG := D → Rho → Option Rho
abbrev TT2 := L2.St → L2.St → Prop
def tAny : TT2 := fun _ _ => True
def tOnly (vs : List Nat) : TT2 := fun σ σ' => wipe σ' vs = wipe σ vs
class TOk (T : TT2) : Prop where
  rf : ∀ σ, T σ σ
  tr : ∀ a b c, T a b → T b c → T a c
instance : TOk tAny := ⟨fun _ => trivial, fun _ _ _ _ _ => trivial⟩
instance (vs : List Nat) : TOk (tOnly vs) := ⟨fun _ => rfl, fun _ _ _ h1 h2 => h2.trans h1⟩
def lG (K : PySem.W.Frag) (T : TT2) (g : XG) : TG := fun v σ H Q => ∃ F ρ d ρ', Rel K F H ρ σ ∧ Rp K F v d ∧ g d ρ = some ρ' ∧ ∀ σ', T σ σ' → Go K ρ σ F H ρ' σ' F H → Q σ' H
def lGs (K : PySem.W.Frag) (T : TT2) (g : List D → Rho → Option Rho) : TGs := fun vs σ H Q => ∃ F ρ ds ρ', Rel K F H ρ σ ∧ RpAll K F vs ds ∧ g ds ρ = some ρ' ∧ ∀ σ', T σ σ' → Go K ρ σ F H ρ' σ' F H → Q σ' H
theorem pg_imp {e : Expr} {t t' : TG} (h : PG X e t) (k : ∀ v σ H Q, t' v σ H Q → t v σ H Q) : PG X e t' := ⟨fun pins s σ H v u Q I rv q => h.run pins s σ H v u Q I rv (k v σ H Q q)⟩
theorem pgs_imp {e : List Expr} {t t' : TGs} (h : PGs X e t) (k : ∀ v σ H Q, t' v σ H Q → t v σ H Q) : PGs X e t' := ⟨fun pins s σ H v u Q I rv q => h.run pins s σ H v u Q I rv (k v σ H Q q)⟩
def gSet (i : Nat) : XG := fun d ρ => some (ρ.set i (.val d))
theorem wipe_in {σ : L2.St} {j : Nat} : ∀ {vs : List Nat}, j ∈ vs → (wipe σ vs)[j]? = if j < σ.length then some none else none
  | [], h => by cases h
  | v :: vs, h => by
    unfold wipe
    by_cases e : v = j
    · subst e
      by_cases hl : v < σ.length
      · rw [if_pos hl, List.getElem?_set_self (by rw [wipe_length]; exact hl)]
      · rw [if_neg hl, List.getElem?_eq_none (by rw [List.length_set, wipe_length]; omega)]
    · rw [List.getElem?_set_ne e]
      exact wipe_in (by rcases List.mem_cons.mp h with z | z; exact absurd z.symm e; exact z)
theorem wipe_not {σ : L2.St} {j : Nat} : ∀ {vs : List Nat}, j ∉ vs → (wipe σ vs)[j]? = σ[j]?
  | [], _ => rfl
  | v :: vs, h => by
    unfold wipe
    rw [List.getElem?_set_ne (fun e => h (by rw [e]; exact List.mem_cons_self ..))]
    exact wipe_not (fun z => h (List.mem_cons_of_mem _ z))
theorem wipe_set {σ : L2.St} {i : Nat} {x : Option V} {vs : List Nat} (h : i ∈ vs) : wipe (σ.set i x) vs = wipe σ vs := by
  apply List.ext_getElem?
  intro j
  by_cases hj : j ∈ vs
  · rw [wipe_in hj, wipe_in hj, List.length_set]
  · rw [wipe_not hj, wipe_not hj, List.getElem?_set_ne (show i ≠ j from fun e => hj (by rw [← e]; exact h))]
class TIn (T : TT2) (i : Nat) : Prop where
  ok : ∀ (σ : L2.St) (x : Option V), T σ (σ.set i x)
instance (i : Nat) : TIn tAny i := ⟨fun _ _ => trivial⟩
theorem TIn.of {vs : List Nat} {i : Nat} (h : i ∈ vs) : TIn (tOnly vs) i := ⟨fun _ _ => wipe_set h⟩
theorem xg_nameT {T : TT2} {i : Nat} {x : Str} (h0 : i ≠ 0) (hT : TIn T i) (hN : X.N.Nodup) (hi : X.N[i]? = some x) (hx : Loc X.env.scope x) (hf : X.fn x = true ∨ X.env.scope.names.lookup x = some .local := by first | exact .inl rfl | exact .inr rfl | assumption) : PG X (.Name x pos) (lG X.K T (gSet i)) :=
  pg_imp (pg_name hN hi hx hf) fun v σ H Q h => by
    obtain ⟨F, ρ, d, ρ', r, rv, e, q⟩ := h
    cases e
    exact q _ (hT.ok _ _) (Go.setVal h0 r rv)
theorem xg_name {i : Nat} {x : Str} (hN : X.N.Nodup) (hi : X.N[i]? = some x) (hx : Loc X.env.scope x) (h0 : i ≠ 0 := by decide) (hf : X.fn x = true ∨ X.env.scope.names.lookup x = some .local := by first | exact .inl rfl | exact .inr rfl | assumption) : PG X (.Name x pos) (lG X.K tAny (gSet i)) :=
  xg_nameT h0 inferInstance hN hi hx hf
theorem xg_nameW {vs : List Nat} {i : Nat} {x : Str} (hN : X.N.Nodup) (hi : X.N[i]? = some x) (hx : Loc X.env.scope x) (hm : i ∈ vs := by decide) (h0 : i ≠ 0 := by decide) (hf : X.fn x = true ∨ X.env.scope.names.lookup x = some .local := by first | exact .inl rfl | exact .inr rfl | assumption) : PG X (.Name x pos) (lG X.K (tOnly vs) (gSet i)) :=
  xg_nameT h0 (TIn.of hm) hN hi hx hf
def gsNil : List D → Rho → Option Rho := fun ds ρ => match ds with
  | [] => some ρ
  | _ => none
def gsCons (g : XG) (gs : List D → Rho → Option Rho) : List D → Rho → Option Rho := fun ds ρ => match ds with
  | d :: r => (g d ρ).bind (gs r)
  | [] => none
theorem xgs_nil {T : TT2} [TOk T] : PGs X [] (lGs X.K T gsNil) := pgs_imp pgs_nil fun v σ H Q h => by
  obtain ⟨F, ρ, ds, ρ', r, rv, e, q⟩ := h
  cases rv with
  | nil => cases e; exact ⟨rfl, q σ (TOk.rf σ) (Go.refl r)⟩
  | cons _ _ => cases e
theorem xgs_cons {T : TT2} [TOk T] {e : Expr} {es : List Expr} {t : XG} {u : List D → Rho → Option Rho} (h1 : PG X e (lG X.K T t)) (h2 : PGs X es (lGs X.K T u))
    (hs : (assignEach (e :: es) X.env).map (·.2) = assign e X.env :: (assignEach es X.env).map (·.2) := by rfl) : PGs X (e :: es) (lGs X.K T (gsCons t u)) := pgs_imp (pgs_cons h1 h2 hs) fun v σ H Q h => by
  obtain ⟨F, ρ, ds, ρ', r, rv, e, q⟩ := h
  cases rv with
  | nil => cases e
  | cons a b =>
    rename_i v vs d ds
    unfold gsCons at e
    simp only at e
    cases q1 : t d ρ with
    | none => rw [q1] at e; cases e
    | some ρ1 =>
      rw [q1] at e
      refine ⟨v, vs, rfl, F, ρ, d, ρ1, r, a, q1, fun σ1 t1 g1 => ⟨F, ρ1, ds, ρ', g1.rel, b, e, fun σ2 t2 g2 => q σ2 (TOk.tr _ _ _ t1 t2) (g1.trans r g2)⟩⟩
def gsTup (n : Nat) (gs : List D → Rho → Option Rho) : XG := fun d ρ => match d with
  | .tup ds => if ds.length = n then gs ds ρ else none
  | _ => none
theorem xg_tup {T : TT2} {es : List Expr} {k : Nat} {t : List D → Rho → Option Rho} {n : Nat} (hc : X.calm = true) (h : PGs X es (lGs X.K T t))
    (hn : (assignEach es X.env).length = n := by rfl) (hst : (assignEach es X.env).findIdx? (·.1) = none := by rfl) : PG X (.Tuple es k pos) (lG X.K T (gsTup n t)) := pg_imp (pg_tup hc h hn hst) fun v σ H Q h => by
  obtain ⟨F, ρ, d, ρ', r, rv, e, q⟩ := h
  cases rv with
  | tup hf ra =>
    rename_i a xs ds
    unfold gsTup at e
    simp only at e
    split at e
    · rename_i hl
      exact ⟨a, xs, rfl, SqT.of (r.ex _ _ hf), ra.length.trans hl, F, ρ, ds, ρ', r, ra, e, q⟩
    · cases e
  | non => cases e
  | bl _ => cases e
  | int _ => cases e
  | str _ => cases e
  | ty _ => cases e
  | lst _ _ => cases e
  | fix _ _ => cases e
  | dicK _ _ _ => cases e
  | dicT _ _ _ => cases e
  | dicN _ _ _ _ => cases e
  | exn _ _ => cases e
  | inst _ _ _ _ => cases e
  | _ => cases e
def xAsg (te : XV) (g : XG) : XS := fun ρ => (te ρ).fl fun d ρ1 => match g d ρ1 with
  | some ρ2 => .nx ρ2
  | none => .bad
abbrev xSet (i : Nat) (te : XV) : XS := xAsg te (gSet i)
theorem xs_set {i : Nat} {x : Str} {e : Expr} {te : XV} {pos' : Pos} (hN : X.N.Nodup) (hi : X.N[i]? = some x) (hx : Loc X.env.scope x) (he : PE X e (lE X.K E te)) (h0 : i ≠ 0 := by decide) (hs : swapsWith e (some (.Name x pos')) pos.line X.env = pure false := by rfl) (hf : X.fn x = true ∨ X.env.scope.names.lookup x = some .local := by first | exact .inl rfl | exact .inr rfl | assumption) :
    PS X (.Assign [.Name x pos'] e pos) (lS X.K E fr (xSet i te)) := ps_imp (ps_set hN hi hx he hs hf) fun C σ H h => by
  obtain ⟨F, ρ, r, p⟩ := h
  exact ⟨F, ρ, r, (p.fl r).mono fun d ρ1 F1 H1 g1 q v rv => q _ F1 H1 (Go.setVal h0 g1.rel rv)⟩
/-- a new object, owned -/
def xSetO (i : Nat) (te : XV) : XS := fun ρ => (te ρ).fl fun d ρ1 => .nx (ρ1.set i (.own d))
theorem seto_of {i : Nat} {te : XV} (h0 : i ≠ 0) {C : Ends} {σ : L2.St} {H : Hp} (h : lS X.K E fr (xSetO i te) C σ H) : tAsg (lN X.K E te) (gName i) C σ H := by
  obtain ⟨F, ρ, r, p⟩ := h
  refine ⟨F, ρ, r, ?_⟩
  unfold PendS xSetO at p
  unfold Pend
  split <;> rename_i e <;> simp only [e, Res.fl] at p
  · intro F1 H1 g b o h1 h2 h3 h4 h5
    exact p _ F1 H1 (Go.setOwn h0 r g h1 h2 h3 h4 h5)
  · exact fun F1 H1 g => p σ F1 H1 g
theorem xs_setO {i : Nat} {x : Str} {e : Expr} {te : XV} {pos' : Pos} (hN : X.N.Nodup) (hi : X.N[i]? = some x) (hx : Loc X.env.scope x) (he : PE X e (lN X.K E te)) (h0 : i ≠ 0 := by decide) (hs : swapsWith e (some (.Name x pos')) pos.line X.env = pure false := by rfl) (hf : X.fn x = true ∨ X.env.scope.names.lookup x = some .local := by first | exact .inl rfl | exact .inr rfl | assumption) :
    PS X (.Assign [.Name x pos'] e pos) (lS X.K E fr (xSetO i te)) := ps_imp (ps_set hN hi hx he hs hf) fun C σ H h => seto_of h0 h

def Iters (K : PySem.W.Frag) (ρ : Rho) (σ : L2.St) (F H : Hp) (ds : List D) (J : It) : Prop := ∀ ρ2 σ2 F2 H2, Go K ρ σ F H ρ2 σ2 F2 H2 →
  (∀ i d, ds[i]? = some d → J.go i H2 ∧ ∀ x H3, J.yld i H2 x H3 → ∃ F3, Gr F2 H2 F3 H3 ∧ Rp K F3 x d) ∧ ∀ i, ds.length ≤ i → J.stop i H2
def lI (K : PySem.W.Frag) (E : EW) (t : XA) : TI := fun σ H R => ∃ F ρ, Rel K F H ρ σ ∧ Pend K E t ρ σ F H fun ds ρ' F' H' => ∀ J, Iters K ρ' σ F' H' ds J → R J H'
theorem pi_imp {tg it : Expr} {t t' : TI} (h : PI X tg it t) (k : ∀ σ H Q, t' σ H Q → t σ H Q) : PI X tg it t' := ⟨fun pins s σ H Q I q => h.run pins s σ H Q I (k σ H Q q)⟩
def forRun (g : XG) (body : XS) : List D → XS
  | [], ρ => .nx ρ
  | d :: r, ρ => match g d ρ with
    | none => .bad
    | some ρ1 => match body ρ1 with
      | .nx ρ2 => forRun g body r ρ2
      | .cnt ρ2 => forRun g body r ρ2
      | .brk ρ2 => .nx ρ2
      | f => f
def xFor (ti : XA) (g : XG) (body : XS) : XS := fun ρ => (ti ρ).fl fun ds ρ1 => forRun g body ds ρ1
theorem xs_for {tg iter : Expr} {body : List Stmt} {ti : XA} {g : XG} {tb : XS} (hp : PassesOwn (model X.prog X.w) X.A X.env X.xe) (hc : X.calm = true) (hi : PI X tg iter (lI X.K E ti)) (hg : PG X tg (lG X.K tAny g)) (hb : PSs X body (lS X.K E fr tb))
    (hs : ∀ x, foldedSetIterable iter X.env x = pure x := by intro _; rfl) : PS X (.For tg iter body [] pos) (lS X.K E fr (xFor ti g tb)) := by
  refine ps_imp (ps_for hp hc hi hg hb hs) fun C σ H h => ?_
  obtain ⟨F, ρ, r, p⟩ := h
  refine ⟨F, ρ, r, (p.fl r).mono fun ds ρ1 F1 H1 g1 q J hJ => ?_⟩
  refine ⟨fun i m σ' H' => m = ds.length - i ∧ i ≤ ds.length ∧ ∃ F' ρ', Go X.K ρ1 σ F1 H1 ρ' σ' F' H' ∧ PendS X.K E fr (forRun g tb (ds.drop i)) ρ' σ' F' H' C, ⟨ds.length, by simp, Nat.zero_le _, F1, ρ1, Go.refl g1.rel, by rw [List.drop_zero]; exact q⟩, ?_⟩
  rintro i m σ' H' ⟨rfl, hi, F', ρ', gg, q'⟩
  have r' := gg.rel
  obtain ⟨z1, z2⟩ := hJ ρ' σ' F' H' gg
  by_cases hlt : i < ds.length
  · refine .inr ⟨(z1 i _ (List.getElem?_eq_getElem hlt)).1, fun σ2 H2 => i + 1 ≤ ds.length ∧ ∃ F2 ρ2, Go X.K ρ1 σ F1 H1 ρ2 σ2 F2 H2 ∧ PendS X.K E fr (forRun g tb (ds.drop (i + 1))) ρ2 σ2 F2 H2 C, fun σ2 H2 hN => ⟨ds.length - (i + 1), by omega, rfl, hN.1, hN.2⟩, fun x H3 y => ?_⟩
    obtain ⟨F3, g3, rx⟩ := (z1 i _ (List.getElem?_eq_getElem hlt)).2 x H3 y
    have go3 := g3.go r'
    rw [List.drop_eq_getElem_cons hlt] at q'
    have q' := PendS.go (t := forRun g tb (ds[i] :: ds.drop (i + 1))) r' go3 q'
    unfold PendS forRun at q'
    cases e : g ds[i] ρ' with
    | none => simp only [e] at q'
    | some ρ4 =>
      simp only [e] at q'
      refine ⟨F3, ρ', ds[i], ρ4, go3.rel, rx, e, fun σ4 _ g4 => ⟨F3, ρ4, g4.rel, ?_⟩⟩
      have tail : ∀ {σ5 F5 H5 ρ5}, Go X.K ρ4 σ4 F3 H3 ρ5 σ5 F5 H5 → PendS X.K E fr (fun _ => forRun g tb (ds.drop (i + 1)) ρ5) ρ' σ' F3 H3 C → (i + 1 ≤ ds.length ∧ ∃ F2 ρ2, Go X.K ρ1 σ F1 H1 ρ2 σ5 F2 H5 ∧ PendS X.K E fr (forRun g tb (ds.drop (i + 1))) ρ2 σ5 F2 H5 C) :=
        fun {σ5 F5 H5 ρ5} g5 k => ⟨hlt, F5, ρ5, gg.trans g1.rel (go3.trans r' (g4.trans go3.rel g5)), PendS.go go3.rel (g4.trans go3.rel g5) k⟩
      unfold PendS
      split <;> rename_i e5 <;> simp only [e5] at q'
      · exact fun σ5 F5 H5 g5 => tail g5 q'
      · exact RetP.go go3.rel g4 q'
      · exact fun σ5 F5 H5 g5 => q' σ5 F5 H5 (g4.trans go3.rel g5)
      · exact fun σ5 F5 H5 g5 => tail g5 q'
      · exact fun σ5 F5 H5 g5 => q' σ5 F5 H5 (g4.trans go3.rel g5)
  · have e : i = ds.length := by omega
    subst e
    refine .inl ⟨z2 _ (Nat.le_refl _), ?_⟩
    rw [List.drop_length] at q'
    exact q' σ' F' H' (Go.refl r')
/-- the things that are walked: lists, tuples -/
def dItems : D → Option (List D)
  | .lst ds => some ds
  | .tup ds => some ds
  | .fix ds => some ds
  | _ => none
def dItL : D → Option (List D)
  | .lst ds => some ds
  | .fix ds => some ds
  | _ => none
def dItT : D → Option (List D)
  | .tup ds => some ds
  | _ => none
theorem iters_list {K : PySem.W.Frag} {ρ : Rho} {σ : L2.St} {F H : Hp} {a : Addr} {xs : List V} {ds : List D} (h : ∀ ρ2 σ2 F2 H2, Go K ρ σ F H ρ2 σ2 F2 H2 → SqL K H2 a xs) (r : RpAll K F xs ds) : Iters K ρ σ F H ds (Itl K a) := fun ρ2 σ2 F2 H2 g =>
  ⟨fun i d hd => by
    obtain ⟨v, hv, rv⟩ := r.get hd
    exact ⟨⟨xs, v, h ρ2 σ2 F2 H2 g, hv⟩, fun x H3 y => by
      obtain ⟨e, y⟩ := y
      subst e
      have := y xs (h ρ2 σ2 F2 _ g)
      rw [hv] at this
      cases this
      exact ⟨F2, Gr.refl g.rel.ex, rv.mono g.ex⟩⟩, fun i hi => ⟨xs, h ρ2 σ2 F2 H2 g, by rw [r.length]; exact hi⟩⟩
theorem iters_tup {K : PySem.W.Frag} {ρ : Rho} {σ : L2.St} {F H : Hp} {a : Addr} {xs : List V} {ds : List D} (h : F a = some (.tup xs)) (r : RpAll K F xs ds) : Iters K ρ σ F H ds (Itt K a) := fun ρ2 σ2 F2 H2 g =>
  have q : SqT K H2 a xs := SqT.of (g.rel.ex _ _ (g.ex _ _ h))
  ⟨fun i d hd => by
    obtain ⟨v, hv, rv⟩ := r.get hd
    exact ⟨⟨xs, v, q, hv⟩, fun x H3 y => by
      obtain ⟨e, y⟩ := y
      subst e
      have := y xs q
      rw [hv] at this
      cases this
      exact ⟨F2, Gr.refl g.rel.ex, rv.mono g.ex⟩⟩, fun i hi => ⟨xs, q, by rw [r.length]; exact hi⟩⟩
/-- range(n), range(a, b) -/
def rangeD (lo : Int) (n : Nat) : List D := (List.range n).map fun i => .int (lo + (i : Nat))
/-- -(2 ^ 62) ≤ n < 2 ^ 62, told so that the kernel does not count down -/
def inR : Int → Bool
  | .ofNat m => Nat.ble m 4611686018427387903
  | .negSucc m => Nat.ble m 4611686018427387903
theorem inR_iff (n : Int) : inR n = true ↔ -(2 ^ 62) ≤ n ∧ n < 2 ^ 62 := by
  cases n with
  | ofNat m =>
    unfold inR
    simp only [Nat.ble_eq, Int.ofNat_eq_natCast]
    omega
  | negSucc m =>
    unfold inR
    simp only [Nat.ble_eq, Int.negSucc_eq]
    omega
def dRange1 : D → Option (List D)
  | .int n => if inR n = true then some (rangeD 0 n.toNat) else none
  | _ => none
def dRange2 : D → D → Option (List D)
  | .int a, .int b => if inR a = true ∧ inR b = true then some (rangeD a (b - a).toNat) else none
  | _, _ => none
def xItR1 (t : XV) : XA := fun ρ => (t ρ).bind (lift dRange1)
def xItR2 (ta tb : XV) : XA := fun ρ => (ta ρ).bind fun x ρ1 => (tb ρ1).bind (lift (dRange2 x))
theorem iters_range {K : PySem.W.Frag} {ρ : Rho} {σ : L2.St} {F H : Hp} {lo : Int} {n : Nat} : Iters K ρ σ F H (rangeD lo n) (Itr lo n) := by
  intro ρ2 σ2 F2 H2 g
  refine ⟨fun i d hd => ?_, fun i hi => ?_⟩
  · unfold rangeD at hd
    rw [List.getElem?_map] at hd
    by_cases hi : i < n
    · rw [List.getElem?_range hi] at hd
      cases hd
      refine ⟨hi, fun x H3 y => ?_⟩
      obtain ⟨e, y⟩ := y
      subst e y
      exact ⟨F2, Gr.refl g.rel.ex, .int _⟩
    · rw [List.getElem?_eq_none (by rw [List.length_range]; omega)] at hd
      cases hd
  · unfold rangeD at hi
    rw [List.length_map, List.length_range] at hi
    exact hi
theorem dRange1_of {d : D} {ds : List D} (e : dRange1 d = some ds) : ∃ n : Int, d = .int n ∧ (-(2 ^ 62) ≤ n ∧ n < 2 ^ 62) ∧ ds = rangeD 0 n.toNat := by
  unfold dRange1 at e
  split at e
  · split at e
    · rename_i n hb
      cases e
      exact ⟨n, rfl, (inR_iff n).mp hb, rfl⟩
    · cases e
  · cases e
theorem dRange2_of {d e : D} {ds : List D} (h : dRange2 d e = some ds) : ∃ a b : Int, d = .int a ∧ e = .int b ∧ ((-(2 ^ 62) ≤ a ∧ a < 2 ^ 62) ∧ -(2 ^ 62) ≤ b ∧ b < 2 ^ 62) ∧ ds = rangeD a (b - a).toNat := by
  unfold dRange2 at h
  split at h
  · split at h
    · rename_i a b hb
      cases h
      exact ⟨a, b, rfl, rfl, ⟨(inR_iff a).mp hb.1, (inR_iff b).mp hb.2⟩, rfl⟩
    · cases h
  · cases h
theorem xi_range1 {tg e : Expr} {p : Pos} {t : XV} (hg : Gl X "range") (hm : X.mg "range" = none) (ha : PE X e (lE X.K E t)) (hs : starEach [e] X.env = [(false, eval e X.env)] := by rfl) :
    PI X tg (.Call (.Name "range" p) [e] [] pos) (lI X.K E (xItR1 t)) := pi_imp (pi_range1 hg hm (pa_cons ha pa_nil hs) hs) fun σ H R h => by
  obtain ⟨F, ρ, r, p⟩ := h
  refine ⟨F, ρ, r, (Pend.bind r p).mono fun x ρ1 F1 H1 g1 q v rv => ?_⟩
  obtain ⟨d, e, q⟩ := q.lift
  obtain ⟨n, rfl, hb, rfl⟩ := dRange1_of e
  cases rv
  have := q F1 H1 (Go.refl g1.rel) _ iters_range
  exact ⟨n, rfl, hb.1, hb.2, this⟩
theorem xi_range2 {tg e e2 : Expr} {p : Pos} {t t2 : XV} (hg : Gl X "range") (hm : X.mg "range" = none) (ha : PE X e (lE X.K E t)) (hb : PE X e2 (lE X.K E t2)) (hs : starEach [e, e2] X.env = (false, eval e X.env) :: starEach [e2] X.env := by rfl)
    (hs2 : starEach [e2] X.env = [(false, eval e2 X.env)] := by rfl) (hpl : (backTo pos (starEach [e2] X.env)).any (·.1) = false := by rfl) :
    PI X tg (.Call (.Name "range" p) [e, e2] [] pos) (lI X.K E (xItR2 t t2)) := pi_imp (pi_range2 hg hm (pa_cons ha (pa_cons hb pa_nil hs2) hs) (hs.trans (by rw [hs2])) hs2) fun σ H R h => by
  obtain ⟨F, ρ, r, p⟩ := h
  refine ⟨F, ρ, r, (Pend.bind r p).mono fun x ρ1 F1 H1 g1 q v rv => ⟨F1, ρ1, g1.rel, (Pend.bind g1.rel q).mono fun y ρ2 F2 H2 g2 q w rw => ?_⟩⟩
  obtain ⟨d, e, q⟩ := q.lift
  obtain ⟨a, b, rfl, rfl, hb, rfl⟩ := dRange2_of e
  cases rv
  cases rw
  have := q F2 H2 (Go.refl g2.rel) _ iters_range
  exact ⟨a, b, rfl, ⟨hb.1.1, hb.1.2, hb.2.1, hb.2.2⟩, this⟩
end
end G


namespace G
open PySem PySem.Spec PyProof.Rows L2

def wipeR (ρ : Rho) : List Nat → Rho
  | [] => ρ
  | v :: vs => (wipeR ρ vs).set v .emp
def backR (ρ₀ ρ : Rho) : List Nat → Rho
  | [] => ρ
  | v :: vs => (backR ρ₀ ρ vs).set v (ρ₀.getD v .emp)
def noOwn (ρ : Rho) (vs : List Nat) : Bool := vs.all fun v => match ρ[v]? with
  | some (.own _) => false
  | _ => true
def Res.bindX {α β : Type} (r : Res α) (f : α → Rho → Res β) : Res β := match r with
  | .ok a ρ => f a ρ
  | _ => .bad
def xYes : XT := fun ρ => .ok true ρ
def lcRun (g : XG) (tt : XT) (te : XV) (vs : List Nat) : List D → List D → Rho → Res (List D)
  | [], acc, ρ => .ok acc ρ
  | d :: r, acc, ρ => match g d (wipeR ρ vs) with
    | none => .bad
    | some ρ1 => (tt ρ1).bindX fun b ρ2 => if b = true then (te ρ2).bindX fun y ρ3 => lcRun g tt te vs r (acc ++ [y]) (backR ρ ρ3 vs) else lcRun g tt te vs r acc (backR ρ ρ2 vs)
def xLC (ti : XA) (g : XG) (tt : XT) (te : XV) (vs : List Nat) : XV := fun ρ => (ti ρ).bind fun ds ρ1 =>
  if ds.length ≤ sizeLine ∧ noOwn ρ1 vs = true then (lcRun g tt te vs ds [] ρ1).bind fun acc ρ2 => .ok (.lst acc) ρ2 else .bad

section
variable {K : PySem.W.Frag} {F H F1 H1 : Hp} {ρ ρ1 : Rho} {σ σ1 : L2.St}
theorem wipeR_length (ρ : Rho) : ∀ vs : List Nat, (wipeR ρ vs).length = ρ.length
  | [] => rfl
  | v :: vs => by unfold wipeR; rw [List.length_set, wipeR_length ρ vs]
theorem backR_length (ρ₀ ρ : Rho) : ∀ vs : List Nat, (backR ρ₀ ρ vs).length = ρ.length
  | [] => rfl
  | v :: vs => by unfold backR; rw [List.length_set, backR_length ρ₀ ρ vs]
theorem wipeR_in {j : Nat} {s : Slot} : ∀ {vs : List Nat}, j ∈ vs → (wipeR ρ vs)[j]? = some s → s = .emp
  | [], h, _ => by cases h
  | v :: vs, h, e => by
    unfold wipeR at e
    rcases get_set e with ⟨_, q⟩ | ⟨hv, e⟩
    · exact q
    · exact wipeR_in (by rcases List.mem_cons.mp h with z | z; exact absurd z.symm hv; exact z) e
theorem wipeR_not {j : Nat} : ∀ {vs : List Nat}, j ∉ vs → (wipeR ρ vs)[j]? = ρ[j]?
  | [], _ => rfl
  | v :: vs, h => by
    unfold wipeR
    rw [List.getElem?_set_ne (fun e => h (by rw [e]; exact List.mem_cons_self ..))]
    exact wipeR_not (fun z => h (List.mem_cons_of_mem _ z))
theorem backR_in {ρ₀ : Rho} {j : Nat} {s : Slot} : ∀ {vs : List Nat}, j ∈ vs → (backR ρ₀ ρ vs)[j]? = some s → s = ρ₀.getD j .emp
  | [], h, _ => by cases h
  | v :: vs, h, e => by
    unfold backR at e
    rcases get_set e with ⟨e1, q⟩ | ⟨hv, e⟩
    · rw [← e1]; exact q
    · exact backR_in (by rcases List.mem_cons.mp h with z | z; exact absurd z.symm hv; exact z) e
theorem backR_not {ρ₀ : Rho} {j : Nat} : ∀ {vs : List Nat}, j ∉ vs → (backR ρ₀ ρ vs)[j]? = ρ[j]?
  | [], _ => rfl
  | v :: vs, h => by
    unfold backR
    rw [List.getElem?_set_ne (fun e => h (by rw [e]; exact List.mem_cons_self ..))]
    exact backR_not (fun z => h (List.mem_cons_of_mem _ z))
theorem noOwn_at {vs : List Nat} (h : noOwn ρ vs = true) {j : Nat} (hj : j ∈ vs) {d : D} (e : ρ[j]? = some (.own d)) : False := by
  have := List.all_eq_true.mp h j hj
  rw [e] at this
  cases this
theorem own_wipe {vs : List Nat} {p : Addr} (h : Own (wipeR ρ vs) (wipe σ vs) p) : Own ρ σ p := by
  obtain ⟨j, d, h1, h2⟩ := h
  by_cases hj : j ∈ vs
  · cases wipeR_in hj h1
  · rw [wipeR_not hj] at h1
    rw [wipe_not hj] at h2
    exact ⟨j, d, h1, h2⟩
theorem Rel.wipe (r : Rel K F H ρ σ) (vs : List Nat) : Rel K F H (wipeR ρ vs) (wipe σ vs) := by
  refine ⟨r.ex, by rw [wipeR_length, wipe_length]; exact r.len, fun j s o h1 h2 => ?_, fun j k d1 d2 p h1 h2 h3 h4 => ?_, fun j d p h1 h2 h3 => ?_⟩
  rotate_right
  · have g1 : j ∉ vs := fun hj => by cases wipeR_in hj h1
    rw [wipeR_not g1] at h1
    rw [wipe_not g1] at h2
    exact r.rdis j d p h1 h2 (own_wipe h3)
  · by_cases hj : j ∈ vs
    · rw [wipeR_in hj h1]; exact .emp
    · rw [wipeR_not hj] at h1
      rw [wipe_not hj] at h2
      exact r.at' j s o h1 h2
  · have g1 : j ∉ vs := fun hj => by cases wipeR_in hj h1
    have g2 : k ∉ vs := fun hj => by cases wipeR_in hj h2
    rw [wipeR_not g1] at h1
    rw [wipeR_not g2] at h2
    rw [wipe_not g1] at h3
    rw [wipe_not g2] at h4
    exact r.dis j k d1 d2 p h1 h2 h3 h4
/-- out of a turn of a comprehension: what it was given is as before, but what is owned may have changed -/
theorem Go.back {vs : List Nat} (hv0 : 0 ∉ vs) (r : Rel K F H ρ σ) (hn : noOwn ρ vs = true) (g : Go K (wipeR ρ vs) (L2.wipe σ vs) F H ρ1 σ1 F1 H1) (hw : L2.wipe σ1 vs = L2.wipe σ vs) : Go K ρ σ F H (backR ρ ρ1 vs) σ F1 H1 := by
  have same : ∀ j, j ∉ vs → σ1[j]? = σ[j]? := fun j hj => by
    have e := congrArg (fun l => l[j]?) hw
    simp only [wipe_not hj] at e
    exact e
  have lens : σ1.length = σ.length := by
    have e := congrArg List.length hw
    rw [wipe_length, wipe_length] at e
    exact e
  have ob : ∀ p, Own (backR ρ ρ1 vs) σ p → Own ρ1 σ1 p ∧ True := fun p ⟨j, d, h1, h2⟩ => by
    by_cases hj : j ∈ vs
    · have e := backR_in hj h1
      rw [List.getD_eq_getElem?_getD] at e
      cases q : ρ[j]? with
      | none => rw [q] at e; cases e
      | some s => rw [q] at e; exact (noOwn_at hn hj (q.trans (congrArg some e.symm))).elim
    · rw [backR_not hj] at h1
      exact ⟨⟨j, d, h1, (same j hj).trans h2⟩, trivial⟩
  have rdj : ∀ (j : Nat) (d : D), (backR ρ ρ1 vs)[j]? = some (.rd d) → ρ[j]? = some (.rd d) := fun j d h => by
    by_cases hj : j ∈ vs
    · have e := backR_in hj h
      rw [List.getD_eq_getElem?_getD] at e
      cases q : ρ[j]? with
      | none => rw [q] at e; cases e
      | some s => rw [q] at e; exact congrArg some e.symm
    · rw [backR_not hj] at h
      obtain ⟨k1, _⟩ := g.rdb j d h
      rw [wipeR_not hj] at k1
      exact k1
  refine ⟨⟨g.rel.ex, ?_, fun j s o h1 h2 => ?_, fun j k d1 d2 p h1 h2 h3 h4 => ?_, fun j d p h1 h2 h3 => ?_⟩, g.ex, fun a o h1 h2 h3 => g.keep a o h1 h2 fun z => h3 (own_wipe z), fun p h => ?_, rfl, fun d h => ?_, fun j d h => ⟨rdj j d h, rfl⟩⟩
  rotate_left 3
  · have k1 := rdj j d h1
    rcases g.own p (ob p h3).1 with z | z
    · exact r.rdis j d p k1 h2 (own_wipe z)
    · have y := r.at' j _ _ k1 h2
      cases y with
      | rd ra =>
        cases ra with
        | own _ y _ => rw [z] at y; cases y
        | val rp nf => exact rp_at rp nf (r.ex.free z)
  rotate_right
  rotate_right
  rotate_right
  · rw [backR_length, g.rel.len, lens]
  · by_cases hj : j ∈ vs
    · have e := backR_in hj h1
      rw [List.getD_eq_getElem?_getD] at e
      cases q : ρ[j]? with
      | none => rw [q] at e; rw [e]; exact .emp
      | some u =>
        rw [q] at e
        have e' : s = u := e
        subst e'
        have z := r.at' j s o q h2
        cases z with
        | emp => exact .emp
        | adr => exact .adr
        | val rp => exact .val (rp.mono g.ex)
        | own _ _ _ => exact (noOwn_at hn hj q).elim
        | rd ra =>
          refine .rd (ra.step g.ex fun p' u hn eq e1 e2 => ?_)
          obtain ⟨m1, m2⟩ := g.keep p' u e1 e2 fun z => by
            subst eq
            exact r.rdis j _ _ q h2 (own_wipe z)
          exact ⟨m1, m2 hn⟩
    · rw [backR_not hj] at h1
      exact g.rel.at' j s o h1 ((same j hj).trans h2)
  · have notin : ∀ (m : Nat) (e : D), (backR ρ ρ1 vs)[m]? = some (.own e) → m ∉ vs := fun m e h hm => by
      have e := backR_in hm h
      rw [List.getD_eq_getElem?_getD] at e
      cases q : ρ[m]? with
      | none => rw [q] at e; cases e
      | some u =>
        rw [q] at e
        exact noOwn_at hn hm (q.trans (congrArg some e.symm))
    have n1 := notin j d1 h1
    have n2 := notin k d2 h2
    rw [backR_not n1] at h1
    rw [backR_not n2] at h2
    exact g.rel.dis j k d1 d2 p h1 h2 ((same j n1).trans h3) ((same k n2).trans h4)
  · rcases g.own p (ob p h).1 with z | z
    · exact .inl (own_wipe z)
    · exact .inr z
  · obtain ⟨d', h'⟩ := g.lowO d (by rw [wipeR_not hv0]; exact h)
    exact ⟨d', by rw [backR_not hv0]; exact h'⟩
theorem noOwn_back {vs : List Nat} {ρ₀ : Rho} (hn : noOwn ρ₀ vs = true) : noOwn (backR ρ₀ ρ vs) vs = true := by
  refine List.all_eq_true.mpr fun j hj => ?_
  cases q : (backR ρ₀ ρ vs)[j]? with
  | none => rfl
  | some s =>
    have e := backR_in hj q
    rw [List.getD_eq_getElem?_getD] at e
    cases q2 : ρ₀[j]? with
    | none => rw [q2] at e; rw [e]; rfl
    | some u =>
      rw [q2] at e
      have e' : s = u := e
      subst e'
      have := List.all_eq_true.mp hn j hj
      rw [q2] at this
      exact this
theorem rd_new {p : Addr} (r : Rel K F H ρ σ) (g : Go K ρ σ F H ρ1 σ1 F1 H1) (h0 : H p = none) (j : Nat) (d : D) (h1 : ρ1[j]? = some (.rd d)) (h2 : σ1[j]? = some (some (.ref p))) : False := by
  obtain ⟨k1, k2⟩ := g.rdb j d h1
  rw [k2] at h2
  have y := r.at' j _ _ k1 h2
  cases y with
  | rd ra =>
    cases ra with
    | own _ y _ => rw [h0] at y; cases y
    | val rp nf => exact rp_at rp nf (r.ex.free h0)
/-- an object that was not known at the start changes -/
theorem Go.touch {p : Addr} {o o' : HO} (r : Rel K F H ρ σ) (g : Go K ρ σ F H ρ1 σ1 F1 H1) (h0 : H p = none) (hf : F1 p = none) (hh : H1 p = some o) (hn : ¬ Own ρ1 σ1 p) : Go K ρ σ F H ρ1 σ1 F1 (upd H1 p o') := by
  refine ⟨⟨fun b u q => by rw [upd_ne (ne_of_none q hf)]; exact g.rel.ex b u q, g.rel.len, fun j s v h1 h2 => ?_, g.rel.dis, g.rel.rdis⟩, g.ex, fun a u h1 h2 h3 => ?_, g.own, g.low, g.lowO, g.rdb⟩
  · have z := g.rel.at' j s v h1 h2
    cases z with
    | emp => exact .emp
    | adr => exact .adr
    | val rp => exact .val rp
    | own z1 z2 z3 =>
      refine .own z1 ?_ z3
      rw [upd_ne]
      · exact z2
      · rintro rfl
        exact hn ⟨j, _, h1, h2⟩
    | rd ra =>
      refine .rd (ra.step (Same.refl F1) fun q u _ eq e1 e2 => ⟨?_, e2⟩)
      subst eq
      rw [upd_ne]
      · exact e1
      · rintro rfl
        exact rd_new r g h0 j _ h1 h2
  · obtain ⟨q1, q2⟩ := g.keep a u h1 h2 h3
    refine ⟨?_, q2⟩
    rw [upd_ne (ne_of_none h1 h0)]
    exact q1
end
section
variable {X : Cx} {E : EW} {fr : Bool} {pos : Pos}
abbrev E0 : EW := fun _ _ _ => False
theorem Pend.bindX {K : PySem.W.Frag} {σ : L2.St} {F H : Hp} {ρ : Rho} {α β : Type} {t : Rho → Res α} {f : α → Rho → Res β} {Q : β → Rho → Hp → Hp → Prop} (r : Rel K F H ρ σ) (h : Pend K E (fun ρ => (t ρ).bindX f) ρ σ F H Q) :
    Pend K E0 t ρ σ F H fun a ρ1 F1 H1 => Pend K E (f a) ρ1 σ F1 H1 Q := by
  unfold Pend at h ⊢
  split <;> rename_i e <;> simp only [e, Res.bindX] at h
  intro F1 H1 g
  split <;> rename_i e2 <;> rw [e2] at h
  · exact fun F2 H2 g2 => h F2 H2 (g.trans r g2)
  · exact fun F2 H2 g2 => h F2 H2 (g.trans r g2)
  · exact h
theorem Pend.go {K : PySem.W.Frag} {σ : L2.St} {F H F1 H1 : Hp} {ρ ρ1 : Rho} {α : Type} {t : Rho → Res α} {Q : α → Rho → Hp → Hp → Prop} (r : Rel K F H ρ σ) (g : Go K ρ σ F H ρ1 σ F1 H1) (h : Pend K E (fun _ => t ρ1) ρ σ F H Q) : Pend K E t ρ1 σ F1 H1 Q := by
  unfold Pend at h ⊢
  split <;> rename_i e2 <;> rw [e2] at h
  · exact fun F2 H2 g2 => h F2 H2 (g.trans r g2)
  · exact fun F2 H2 g2 => h F2 H2 (g.trans r g2)
  · exact h
/-- a run that is already known -/
abbrev PendR (K : PySem.W.Frag) (E : EW) {α : Type} (x : Res α) (ρ : Rho) (σ : L2.St) (F H : Hp) (Q : α → Rho → Hp → Hp → Prop) : Prop := Pend K E (fun _ => x) ρ σ F H Q
theorem PendR.bindX {K : PySem.W.Frag} {σ σ4 : L2.St} {F H F3 H3 : Hp} {ρ ρ4 : Rho} {α β : Type} {t : Rho → Res α} {f : α → Rho → Res β} {Q : β → Rho → Hp → Hp → Prop} (h : PendR K E ((t ρ4).bindX f) ρ σ F H Q) :
    Pend K E0 t ρ4 σ4 F3 H3 fun a ρ5 _ _ => PendR K E (f a ρ5) ρ σ F H Q := by
  unfold PendR Pend at h
  unfold Pend
  cases e : t ρ4 with
  | ok a ρ5 =>
    rw [e] at h
    exact fun _ _ _ => h
  | exc c ρ5 => rw [e] at h; exact h.elim
  | bad => rw [e] at h; exact h.elim
theorem wipe_wipe (σ : L2.St) (vs : List Nat) : wipe (wipe σ vs) vs = wipe σ vs := by
  apply List.ext_getElem?
  intro j
  by_cases hj : j ∈ vs
  · rw [wipe_in hj, wipe_in hj, wipe_length]
  · rw [wipe_not hj]
theorem lc_of {ti : XA} {g : XG} {tt : XT} {te : XV} {vs : List Nat} (hv0 : 0 ∉ vs) {σ : L2.St} {H : Hp} {Q : VK} (h : lN X.K E (xLC ti g tt te vs) σ H Q) : tLc (lI X.K E ti) (lG X.K (tOnly vs) g) (lT X.K E0 tt) (lE X.K E0 te) vs σ H Q := by
  obtain ⟨F, ρ, r, p⟩ := h
  refine ⟨F, ρ, r, (Pend.bind r p).mono fun ds ρ1 F1 H1 g1 q J hJ A hA => ?_⟩
  by_cases hc : ds.length ≤ sizeLine ∧ noOwn ρ1 vs = true
  rotate_left
  · unfold Pend at q
    simp only [hc, if_false] at q
  obtain ⟨hz, hno⟩ := hc
  have r1 := g1.rel
  have hAF : F1 A = none := r1.ex.free hA
  have q0 : PendR X.K E (lcRun g tt te vs ds [] ρ1) ρ1 σ F1 H1 fun acc ρ' F' H' => ∀ p o, F' p = none → H' p = some o → Ro X.K F' p o (.lst acc) → ¬ Own ρ' σ p → (Own ρ σ p ∨ H p = none) → Q (.ref p) H' := by
    unfold Pend at q
    simp only [hz, hno, and_self, if_true] at q
    unfold PendR Pend
    cases e : lcRun g tt te vs ds [] ρ1 with
    | ok a ρ5 => rw [e] at q; exact q
    | exc c ρ5 => rw [e] at q; exact q
    | bad => rw [e] at q; exact q
  have start := (Gr.newO (o := .lst []) r1.ex hA).go r1
  refine ⟨fun i m H' => m = ds.length - i ∧ i ≤ ds.length ∧ ∃ F' ρ' acc xs, Go X.K ρ1 σ F1 H1 ρ' σ F' H' ∧ noOwn ρ' vs = true ∧ F' A = none ∧ H' A = some (.lst xs) ∧ RpAll X.K F' xs acc ∧ acc.length ≤ i ∧ ¬ Own ρ' σ A ∧
    PendR X.K E (lcRun g tt te vs (ds.drop i) acc ρ') ρ1 σ F1 H1 fun acc ρ' F' H' => ∀ p o, F' p = none → H' p = some o → Ro X.K F' p o (.lst acc) → ¬ Own ρ' σ p → (Own ρ σ p ∨ H p = none) → Q (.ref p) H', ⟨ds.length, by simp, Nat.zero_le _, F1, ρ1, [], [], start, hno, hAF, upd_same, .nil, Nat.le_refl _, not_own_new r1 hA, by rw [List.drop_zero]; exact q0⟩, ?_⟩
  rintro i m H' ⟨rfl, hi, F', ρ', acc, xs, go, hno', hf, hh, ra, hl, hn, q'⟩
  have r' := go.rel
  obtain ⟨z1, z2⟩ := hJ ρ' σ F' H' go
  by_cases hlt : i < ds.length
  · refine .inr ⟨(z1 i _ (List.getElem?_eq_getElem hlt)).1, fun H2 => i + 1 ≤ ds.length ∧ ∃ F' ρ' acc xs, Go X.K ρ1 σ F1 H1 ρ' σ F' H2 ∧ noOwn ρ' vs = true ∧ F' A = none ∧ H2 A = some (.lst xs) ∧ RpAll X.K F' xs acc ∧ acc.length ≤ i + 1 ∧ ¬ Own ρ' σ A ∧
      PendR X.K E (lcRun g tt te vs (ds.drop (i + 1)) acc ρ') ρ1 σ F1 H1 fun acc ρ' F' H' => ∀ p o, F' p = none → H' p = some o → Ro X.K F' p o (.lst acc) → ¬ Own ρ' σ p → (Own ρ σ p ∨ H p = none) → Q (.ref p) H', fun H2 hN => ⟨ds.length - (i + 1), by omega, rfl, hN.1, hN.2⟩, fun x H3 y => ?_⟩
    obtain ⟨F3, g3, rx⟩ := (z1 i _ (List.getElem?_eq_getElem hlt)).2 x H3 y
    have go3 := go.trans r1 (g3.go r')
    rw [List.drop_eq_getElem_cons hlt] at q'
    have fD3 : F3 A = none := g3.keep A _ nt_lst hh hf
    have hD3 : H3 A = some (.lst xs) := g3.exH A _ hh
    have rw3 := go3.rel.wipe vs
    unfold lcRun at q'
    cases e : g ds[i] (wipeR ρ' vs) with
    | none => unfold PendR Pend at q'; simp only [e] at q'
    | some ρ4 =>
      simp only [e] at q'
      refine ⟨F3, wipeR ρ' vs, ds[i], ρ4, rw3, rx, e, fun σ4 t4 g4 => ⟨(show wipe σ4 vs = wipe (wipe σ vs) vs from t4).trans (wipe_wipe σ vs), F3, ρ4, g4.rel, (PendR.bindX q').mono fun b ρ5 F5 H5 g5 q5 => ?_⟩⟩
      have hw4 : wipe σ4 vs = wipe σ vs := (show wipe σ4 vs = wipe (wipe σ vs) vs from t4).trans (wipe_wipe σ vs)
      have nb : ∀ {ρ5 F5 H5}, Go X.K ρ4 σ4 F3 H3 ρ5 σ4 F5 H5 → Go X.K ρ1 σ F1 H1 (backR ρ' ρ5 vs) σ F5 H5 ∧ F5 A = none ∧ H5 A = some (.lst xs) ∧ ¬ Own (backR ρ' ρ5 vs) σ A ∧ Same F' F5 := fun {ρ5 F5 H5} g5 => by
        have gg := g4.trans rw3 g5
        have b := Go.back hv0 go3.rel hno' gg hw4
        obtain ⟨k1, k2⟩ := b.keep A _ hD3 fD3 hn
        refine ⟨go3.trans r1 b, k2 nt_lst, k1, fun z => ?_, g3.ex.trans b.ex⟩
        rcases b.own A z with z | z
        · exact hn z
        · rw [hD3] at z; cases z
      cases b with
      | false =>
        obtain ⟨n1, n2, n3, n4, n5⟩ := nb g5
        exact ⟨hlt, F5, _, acc, xs, n1, noOwn_back hno', n2, n3, ra.mono n5, Nat.le_succ_of_le hl, n4, q5⟩
      | true =>
        refine ⟨F5, ρ5, g5.rel, (PendR.bindX q5).mono fun y ρ6 F6 H6 g6 q6 v rv => ?_⟩
        obtain ⟨n1, n2, n3, n4, n5⟩ := nb (g5.trans g4.rel g6)
        refine ⟨xs, n3, ?_, hlt, F6, _, acc ++ [y], xs ++ [v], n1.touch r1 hA n2 n3 n4, noOwn_back hno', n2, upd_same, (ra.mono n5).snoc rv, ?_, n4, q6⟩
        · rw [ra.length]
          omega
        · rw [List.length_append]
          simp only [List.length_cons, List.length_nil]
          omega
  · have e : i = ds.length := by omega
    subst e
    refine .inl ⟨z2 _ (Nat.le_refl _), ?_⟩
    rw [List.drop_length] at q'
    exact q' F' H' go A _ hf hh (.lst ra) hn (own_back r g1 (.inr hA))
theorem xn_lc {elt tg iter : Expr} {ifs : List Expr} {scope : Scope} {own : List (Str × Nat)} {ti : XA} {g : XG} {tt : XT} {te : XV} (hc : X.calm = true) (hN : X.N.Nodup) (hi : PI X tg iter (lI X.K E ti)) (ok : BlkOk X.N X.env.scope scope own)
    (hg : ∀ (s : Shared) (H : Hp) (C : Addr) (cl : List (Str × Addr)) (fp : List Addr), PG (X.blk s H scope (compEnvC scope cl C X.env) fp) tg (lG X.K (tOnly (own.map (·.2))) g)) (ht : ∀ (s : Shared) (H : Hp) (C : Addr) (cl : List (Str × Addr)) (fp : List Addr), PTs (X.blk s H scope (compEnvC scope cl C X.env) fp) ifs (lT X.K E0 tt))
    (he : ∀ (s : Shared) (H : Hp) (C : Addr) (cl : List (Str × Addr)) (fp : List Addr), PE (X.blk s H scope (compEnvC scope cl C X.env) fp) elt (lE X.K E0 te)) (hv0 : 0 ∉ own.map (·.2) := by decide) (hs : ∀ x, foldedSetIterable iter X.env x = pure x := by intro _; rfl) :
    PE X (.ListComp elt [⟨tg, iter, ifs, 0⟩] scope pos) (lN X.K E (xLC ti g tt te (own.map (·.2)))) := pe_imp (pe_lc hc hN hi ok hg ht he hs) fun σ H Q h => lc_of hv0 h
/-- y = [..], one line -/
theorem xs_setOLc {i : Nat} {y : Str} {py spos : Pos} {elt tg iter : Expr} {ifs : List Expr} {scope : Scope} {own : List (Str × Nat)} {ti : XA} {g : XG} {tt : XT} {te : XV} (h0 : i ≠ 0) (hc : X.calm = true) (hN : X.N.Nodup) (hy : X.N[i]? = some y) (hyl : X.env.scope.names.lookup y = some .local)
    (hsw : swapsWith (.ListComp elt [⟨tg, iter, ifs, 0⟩] scope pos) (some (.Name y py)) spos.line X.env = pure true) (hi : PI X tg iter (lI X.K E ti)) (ok : BlkOk X.N X.env.scope scope own)
    (hg : ∀ (s : Shared) (H : Hp) (C : Addr) (cl : List (Str × Addr)) (fp : List Addr), PG (X.blk s H scope (compEnvC scope cl C X.env) fp) tg (lG X.K (tOnly (own.map (·.2))) g)) (ht : ∀ (s : Shared) (H : Hp) (C : Addr) (cl : List (Str × Addr)) (fp : List Addr), PTs (X.blk s H scope (compEnvC scope cl C X.env) fp) ifs (lT X.K E0 tt))
    (he : ∀ (s : Shared) (H : Hp) (C : Addr) (cl : List (Str × Addr)) (fp : List Addr), PE (X.blk s H scope (compEnvC scope cl C X.env) fp) elt (lE X.K E0 te)) (hv0 : 0 ∉ own.map (·.2) := by decide) (hs : ∀ x, foldedSetIterable iter X.env x = pure x := by intro _; rfl) :
    PS X (.Assign [.Name y py] (.ListComp elt [⟨tg, iter, ifs, 0⟩] scope pos) spos) (lS X.K E fr (xSetO i (xLC ti g tt te (own.map (·.2))))) := ps_imp (ps_setLc hc hN hy hyl hsw hi ok hg ht he hs) fun C σ H h => by
  have h2 : lN X.K E (xLC ti g tt te (own.map (·.2))) σ H (fun x H1 => gName i x σ H1 C.nx) := seto_of h0 h
  exact lc_of hv0 h2
/-- .. not owned -/
theorem xs_setLc {i : Nat} {y : Str} {py spos : Pos} {elt tg iter : Expr} {ifs : List Expr} {scope : Scope} {own : List (Str × Nat)} {ti : XA} {g : XG} {tt : XT} {te : XV} (h0 : i ≠ 0) (hc : X.calm = true) (hN : X.N.Nodup) (hy : X.N[i]? = some y) (hyl : X.env.scope.names.lookup y = some .local)
    (hsw : swapsWith (.ListComp elt [⟨tg, iter, ifs, 0⟩] scope pos) (some (.Name y py)) spos.line X.env = pure true) (hi : PI X tg iter (lI X.K E ti)) (ok : BlkOk X.N X.env.scope scope own)
    (hg : ∀ (s : Shared) (H : Hp) (C : Addr) (cl : List (Str × Addr)) (fp : List Addr), PG (X.blk s H scope (compEnvC scope cl C X.env) fp) tg (lG X.K (tOnly (own.map (·.2))) g)) (ht : ∀ (s : Shared) (H : Hp) (C : Addr) (cl : List (Str × Addr)) (fp : List Addr), PTs (X.blk s H scope (compEnvC scope cl C X.env) fp) ifs (lT X.K E0 tt))
    (he : ∀ (s : Shared) (H : Hp) (C : Addr) (cl : List (Str × Addr)) (fp : List Addr), PE (X.blk s H scope (compEnvC scope cl C X.env) fp) elt (lE X.K E0 te)) (hv0 : 0 ∉ own.map (·.2) := by decide) (hs : ∀ x, foldedSetIterable iter X.env x = pure x := by intro _; rfl) :
    PS X (.Assign [.Name y py] (.ListComp elt [⟨tg, iter, ifs, 0⟩] scope pos) spos) (lS X.K E fr (xSet i (xLC ti g tt te (own.map (·.2))))) := ps_imp (ps_setLc hc hN hy hyl hsw hi ok hg ht he hs) fun C σ H h => by
  have h2 : lE X.K E (xLC ti g tt te (own.map (·.2))) σ H (fun x H1 => gName i x σ H1 C.nx) := by
    obtain ⟨F, ρ, r, p⟩ := h
    exact ⟨F, ρ, r, (p.fl r).mono fun d ρ1 F1 H1 g1 q v rv => q _ F1 H1 (Go.setVal h0 g1.rel rv)⟩
  exact lc_of hv0 (lE_of_lN h2)
theorem xts_nil : PTs X [] (lT X.K E xYes) := ⟨fun pins s σ H Q I h => pts_nil.run pins s σ H Q I (by
  obtain ⟨F, ρ, r, p⟩ := h
  exact p F H (Go.refl r))⟩
theorem xts_one {c : Expr} {t : XT} (h : PT X c (lT X.K E t)) : PTs X [c] (lT X.K E t) := pts_one h

def ownL (i : Nat) (ρ : Rho) : Option (List D) := match ρ[i]? with
  | some (.own (.lst ds)) => some ds
  | _ => none
theorem ownL_of {i : Nat} {ρ : Rho} {ds : List D} (h : ownL i ρ = some ds) : ρ[i]? = some (.own (.lst ds)) := by
  unfold ownL at h
  split at h
  · rename_i e
    cases h
    exact e
  · cases h
/-- with the list of slot i -/
def withL (i : Nat) (f : List D → XS) : XS := fun ρ => match ownL i ρ with
  | some ds => f ds ρ
  | none => .bad
def xAppend (i : Nat) (te : XV) : XS := withL i fun _ ρ => (te ρ).fl fun d => withL i fun ds ρ1 => if ds.length < sizeLine then .nx (ρ1.set i (.own (.lst (ds ++ [d])))) else .bad
theorem own_lst {K : PySem.W.Frag} {F : Hp} {p : Addr} {o : HO} {ds : List D} (r : Ro K F p o (.lst ds)) : ∃ xs, o = .lst xs ∧ RpAll K F xs ds := by
  cases r with
  | lst r => exact ⟨_, rfl, r⟩
theorem Rel.ownL {K : PySem.W.Frag} {F H : Hp} {ρ : Rho} {σ : L2.St} {i : Nat} {ds : List D} (r : Rel K F H ρ σ) (h : ρ[i]? = some (.own (.lst ds))) : ∃ p xs, σ[i]? = some (some (.ref p)) ∧ F p = none ∧ H p = some (.lst xs) ∧ RpAll K F xs ds := by
  obtain ⟨p, o, h1, h2, h3, h4⟩ := r.own h
  obtain ⟨xs, rfl, h5⟩ := own_lst h4
  exact ⟨p, xs, h1, h2, h3, h5⟩
theorem PendS.withL {K : PySem.W.Frag} {F H : Hp} {ρ : Rho} {σ : L2.St} {i : Nat} {f : List D → XS} {C : Ends} (h : PendS K E fr (withL i f) ρ σ F H C) : ∃ ds, ρ[i]? = some (.own (.lst ds)) ∧ PendS K E fr (f ds) ρ σ F H C := by
  unfold PendS G.withL at h
  cases e : ownL i ρ with
  | none => simp only [e] at h
  | some ds => simp only [e] at h; exact ⟨ds, ownL_of e, h⟩
theorem PendS.ite {K : PySem.W.Frag} {F H : Hp} {ρ : Rho} {σ : L2.St} {c : Prop} [Decidable c] {t : XS} {C : Ends} (h : PendS K E fr (fun ρ => if c then t ρ else .bad) ρ σ F H C) : c ∧ PendS K E fr t ρ σ F H C := by
  unfold PendS at h
  by_cases hc : c
  · simp only [hc, if_true] at h
    exact ⟨hc, h⟩
  · simp only [hc, if_false] at h
/-- x.append(e) -/
theorem xs_append {i : Nat} {x : Str} {e : Expr} {te : XV} {xp apos p2 : Pos} (hN : X.N[i]? = some x) (hv : Vis X.env.scope x) (he : PE X e (lE X.K E te))
    (hs : PE X (.Call (.Attribute (.Name x xp) "append" apos) [e] [] p2) (tBM X.K "list" rAppend (tVar i) (tCons (lE X.K E te) tNil))) (hq : swapsWith (.Call (.Attribute (.Name x xp) "append" apos) [e] [] p2) none pos.line X.env = pure false := by rfl) :
    PS X (.Expr (.Call (.Attribute (.Name x xp) "append" apos) [e] [] p2) pos) (lS X.K E fr (xAppend i te)) := ps_imp (ps_expr hs hq) fun C σ H h => by
  obtain ⟨F, ρ, r, p⟩ := h
  obtain ⟨ds0, e0, p⟩ := PendS.withL p
  obtain ⟨b, xs, h1, h2, h3, h4⟩ := r.ownL e0
  refine ⟨.ref b, h1, .inl ⟨rfl, xs, SqL.of h3⟩, F, ρ, r, (PendS.fl r p).mono fun d ρ1 F1 H1 g1 q v rv => ?_⟩
  obtain ⟨ds, e1, q⟩ := PendS.withL q
  obtain ⟨b1, xs1, k1, k2, k3, k4⟩ := g1.rel.ownL e1
  rw [h1] at k1
  cases k1
  obtain ⟨hz, q⟩ := PendS.ite q
  refine ⟨b, xs1, v, rfl, rfl, k3, by rw [k4.length]; exact hz, ?_⟩
  exact q σ F1 _ (Go.mut g1.rel e1 h1 k2 k3 (.lst (k4.snoc rv)))
/-- a method without arguments that changes an owned list: reverse, clear -/
def xMut (i : Nat) (f : List D → List D) : XS := withL i fun ds ρ => .nx (ρ.set i (.own (.lst (f ds))))
/-- xs[k] = e -/
def dSetAt (ds : List D) (k d : D) : Option (List D) := match k with
  | .int j => (ixN ds.length j).map fun m => ds.set m d
  | _ => none
def xSetIx (i : Nat) (tk te : XV) : XS := fun ρ => (te ρ).fl fun d => withL i fun _ ρ1 => (tk ρ1).fl fun k => withL i fun ds ρ2 => match dSetAt ds k d with
  | some ds' => .nx (ρ2.set i (.own (.lst ds')))
  | none => .bad
theorem xs_setIx {i : Nat} {x : Str} {k e : Expr} {tk te : XV} {xp sp : Pos} (hN : X.N[i]? = some x) (hv : Vis X.env.scope x) (ho : PE X (.Name x xp) (tVar i)) (hk : PE X k (lE X.K E tk)) (he : PE X e (lE X.K E te))
    (ha : ∀ v, assign (.Subscript (.Name x xp) k sp) X.env v = (do
      let ov ← holding [v] (eval (.Name x xp) X.env)
      let iv ← holding [v, ov] (eval k X.env)
      standAt sp
      holding [v, ov, iv] (setItem ov iv v)
      release [v, ov, iv] []) := by intro _; rfl)
    (hs : swapsWithSole [.Subscript (.Name x xp) k sp] e pos.line X.env = pure false := by rfl) (hw : swappedStores [.Subscript (.Name x xp) k sp] e X.env = pure none := by rfl)
    (h1 : (assignEach [.Subscript (.Name x xp) k sp] X.env).map (·.2) = [assign (.Subscript (.Name x xp) k sp) X.env] := by rfl) :
    PS X (.Assign [.Subscript (.Name x xp) k sp] e pos) (lS X.K E fr (xSetIx i tk te)) := ps_imp (ps_asg he (pg_sub ho hk set_list ha) hs hw h1) fun C σ H h => by
  obtain ⟨F, ρ, r, p⟩ := h
  refine ⟨F, ρ, r, (PendS.fl r p).mono fun d ρ1 F1 H1 g1 q v rv => ?_⟩
  obtain ⟨ds0, e0, q⟩ := PendS.withL q
  obtain ⟨b, xs, z1, z2, z3, z4⟩ := g1.rel.ownL e0
  refine ⟨.ref b, z1, F1, ρ1, g1.rel, (PendS.fl g1.rel q).mono fun kd ρ2 F2 H2 g2 q w rw => ?_⟩
  obtain ⟨ds, e1, q⟩ := PendS.withL q
  obtain ⟨b1, xs1, k1, k2, k3, k4⟩ := g2.rel.ownL e1
  rw [z1] at k1
  cases k1
  unfold PendS at q
  cases e2 : dSetAt ds kd d with
  | none => simp only [e2] at q
  | some ds' =>
    simp only [e2] at q
    unfold dSetAt at e2
    split at e2
    · rename_i j
      cases e3 : ixN ds.length j with
      | none => rw [e3] at e2; cases e2
      | some m =>
        rw [e3] at e2
        cases e2
        cases rw
        refine ⟨b, xs1, j, m, rfl, rfl, k3, by rw [k4.length]; exact e3, ?_⟩
        exact q σ F2 _ (Go.mut g2.rel e1 z1 k2 k3 (.lst (RpAll.set (rv.mono g2.ex) m k4)))
    · cases e2
/-- xs[k] of an owned list -/
def dAt (ds : List D) (k : D) : Option D := match k with
  | .int j => atI ds j
  | _ => none
/-- the list that can be read at slot i -/
def rdL (i : Nat) (ρ : Rho) : Option (List D) := match rdD i ρ with
  | some (.lst ds) => some ds
  | _ => none
theorem Rel.rdL {K : PySem.W.Frag} {F H : Hp} {ρ : Rho} {σ : L2.St} {i : Nat} {ds : List D} (r : Rel K F H ρ σ) (h : rdL i ρ = some ds) : ∃ p xs, σ[i]? = some (some (.ref p)) ∧ SqL K H p xs ∧ RpAll K F xs ds := by
  unfold G.rdL at h
  split at h
  · rename_i e
    cases h
    obtain ⟨v, h1, h2⟩ := r.rd e
    cases h2 with
    | val rp _ => cases rp with | lst hf ra => exact ⟨_, _, h1, SqL.of (r.ex _ _ hf), ra⟩
    | own a b c =>
      obtain ⟨xs, rfl, h5⟩ := own_lst c
      exact ⟨_, xs, h1, SqL.of b, h5⟩
  · cases h
def withR {α : Type} (i : Nat) (f : List D → Rho → Res α) : Rho → Res α := fun ρ => match rdL i ρ with
  | some ds => f ds ρ
  | none => .bad
theorem Pend.withR {α : Type} {K : PySem.W.Frag} {F H : Hp} {ρ : Rho} {σ : L2.St} {i : Nat} {f : List D → Rho → Res α} {Q : α → Rho → Hp → Hp → Prop} (h : Pend K E (withR i f) ρ σ F H Q) : ∃ ds, rdL i ρ = some ds ∧ Pend K E (f ds) ρ σ F H Q := by
  unfold Pend G.withR at h
  cases e : G.rdL i ρ with
  | none => simp only [e] at h
  | some ds => simp only [e] at h; exact ⟨ds, rfl, h⟩
def xIxO (i : Nat) (tk : XV) : XV := withR i fun _ ρ => (tk ρ).bind fun k => withR i fun ds => lift (dAt ds) k
theorem atI_rp {K : PySem.W.Frag} {F : Hp} {xs : List V} {ds : List D} {j : Int} {d : D} (r : RpAll K F xs ds) (h : atI ds j = some d) : ∃ v, atI xs j = some v ∧ Rp K F v d := by
  unfold atI at h ⊢
  rw [r.length]
  cases e : ixN ds.length j with
  | none => rw [e] at h; cases h
  | some m =>
    rw [e] at h
    exact r.get h
theorem dAt_of {ds : List D} {k d : D} (h : dAt ds k = some d) : ∃ j : Int, k = .int j ∧ atI ds j = some d := by
  unfold dAt at h
  split at h
  · exact ⟨_, rfl, h⟩
  · cases h
theorem xe_ixO {i : Nat} {x : Str} {k : Expr} {tk : XV} {xp : Pos} (ho : PE X (.Name x xp) (tVar i)) (hk : PE X k (lE X.K E tk)) (hs : PlainIx k) : PE X (.Subscript (.Name x xp) k pos) (lE X.K E (xIxO i tk)) := pe_imp (pe_ix ix_list ho hk hs) fun σ H Q h => by
  obtain ⟨F, ρ, r, p⟩ := h
  obtain ⟨ds0, e0, p⟩ := Pend.withR p
  obtain ⟨b, xs, z1, z3, z4⟩ := r.rdL e0
  refine ⟨.ref b, z1, F, ρ, r, (Pend.bind r p).mono fun kd ρ1 F1 H1 g1 q w rw => ?_⟩
  obtain ⟨ds, e1, q⟩ := Pend.withR q
  obtain ⟨b1, xs1, k1, k3, k4⟩ := g1.rel.rdL e1
  rw [z1] at k1
  cases k1
  obtain ⟨d, e, q2⟩ := q.lift
  obtain ⟨j, rfl, e⟩ := dAt_of e
  cases rw
  obtain ⟨v, hv, rv⟩ := atI_rp k4 e
  exact ⟨b, xs1, j, v, rfl, rfl, k3, hv, q2 F1 H1 (Go.refl g1.rel) v rv⟩
/-- len of an owned list -/
def xLenO (i : Nat) : XV := withR i fun ds ρ => .ok (.int (ds.length : Nat)) ρ
end

inductive FR where
  | ok (d : D) (ps : List D) | exc (c : String) (ps : List D) | bad
abbrev DF := List D → FR
/-- the arguments of a def: md tells which ones are only read -/
inductive RaL (K : PySem.W.Frag) (F H : Hp) (no : Addr → Prop) : List Bool → List V → List D → Prop
  | nil : RaL K F H no [] [] []
  | val {v : V} {d : D} {ms : List Bool} {vs : List V} {ds : List D} : Rp K F v d → RaL K F H no ms vs ds → RaL K F H no (false :: ms) (v :: vs) (d :: ds)
  | rd {v : V} {d : D} {ms : List Bool} {vs : List V} {ds : List D} : Ra K F H v d → (∀ p, v = .ref p → ¬ no p) → RaL K F H no ms vs ds → RaL K F H no (true :: ms) (v :: vs) (d :: ds)
def Slot.of : Bool → D → Slot
  | false, d => .val d
  | true, d => .rd d
def ini : List Bool → List D → Option (List Slot)
  | [], [] => some []
  | m :: ms, d :: ds => (ini ms ds).map (Slot.of m d :: ·)
  | _, _ => none
section
variable (K : PySem.W.Frag) (cv : String → Value) (fr : Bool)
def Out (F H : Hp) (d : D) (Q : VK) : Prop := (fr = false → OutV K F H d Q) ∧ (fr = true → OutN K F H d Q)
/-- a def that changes nothing -/
def spP (md : List Bool) (g : DF) : Sp := fun vs H Q E => ∃ F ds, Same F H ∧ RaL K F H (fun _ => False) md vs ds ∧ match g ds with
  | .ok d _ => Out K fr F H d Q
  | .exc c _ => ∀ F' H', Gr F H F' H' → E (cv c) none H'
  | .bad => False
structure GrB (b : Addr) (F H F' H' : Hp) : Prop where
  ex : Same F F'
  sub : Same F' H'
  keep : ∀ a o, a ≠ b → H a = some o → H' a = some o ∧ (NTup o → F a = none → F' a = none)
/-- a def that changes its first argument -/
def spB (md : List Bool) (g : DF) : Sp := fun vs H Q E => ∃ F b o d0 vs' ds, vs = .ref b :: vs' ∧ Same F H ∧ F b = none ∧ H b = some o ∧ Ro K F b o d0 ∧ RaL K F H (· = b) md vs' ds ∧ match g (d0 :: ds) with
  | .ok d [p'] => ∀ F' H' o', GrB b F H F' H' → F' b = none → H' b = some o' → Ro K F' b o' p' → (fr = false → ∀ v, Rp K F' v d → Q v H') ∧ (fr = true → ∀ p o2, H p = none → F' p = none → H' p = some o2 → Ro K F' p o2 d → Q (.ref p) H')
  | .exc c [p'] => ∀ F' H' o', GrB b F H F' H' → F' b = none → H' b = some o' → Ro K F' b o' p' → E (cv c) none H'
  | _ => False
end
def runP (md : List Bool) (n : Nat) (fr : Bool) (body : XS) : DF := fun ds => match ini md ds with
  | some ss => (match body (ss ++ List.replicate (n - ss.length) .emp) with
    | .ret d _ => .ok d []
    | .nx _ => if fr = true then .bad else .ok .non []
    | .exc c _ => .exc c []
    | _ => .bad)
  | none => .bad
def slot0 (ρ : Rho) : List D := match ρ with
  | .own p :: _ => [p]
  | _ => []
def runB (md : List Bool) (n : Nat) (fr : Bool) (body : XS) : DF
  | d0 :: ds => (match ini md ds with
    | some ss => (match body (.own d0 :: ss ++ List.replicate (n - (ss.length + 1)) .emp) with
      | .ret d ρ => .ok d (slot0 ρ)
      | .nx ρ => if fr = true then .bad else .ok .non (slot0 ρ)
      | .exc c ρ => .exc c (slot0 ρ)
      | _ => .bad)
    | none => .bad)
  | [] => .bad
theorem RaL.len {K : PySem.W.Frag} {F H : Hp} {no : Addr → Prop} : ∀ {md : List Bool} {vs : List V} {ds : List D}, RaL K F H no md vs ds → vs.length = md.length ∧ ds.length = md.length
  | _, _, _, .nil => ⟨rfl, rfl⟩
  | _, _, _, .val _ r => ⟨congrArg (· + 1) r.len.1, congrArg (· + 1) r.len.2⟩
  | _, _, _, .rd _ _ r => ⟨congrArg (· + 1) r.len.1, congrArg (· + 1) r.len.2⟩
theorem ini_len : ∀ {md : List Bool} {ds : List D} {ss : List Slot}, ini md ds = some ss → ss.length = md.length
  | [], [], _, h => by cases h; rfl
  | m :: ms, d :: ds, _, h => by
    unfold ini at h
    cases q : ini ms ds with
    | none => rw [q] at h; cases h
    | some ss => rw [q] at h; cases h; exact congrArg (· + 1) (ini_len q)
  | [], _ :: _, _, h => by cases h
  | _ :: _, [], _, h => by cases h
/-- slot by slot -/
theorem ini_at {K : PySem.W.Frag} {F H : Hp} {no : Addr → Prop} : ∀ {md : List Bool} {vs : List V} {ds : List D} {ss : List Slot}, RaL K F H no md vs ds → ini md ds = some ss → ∀ (j : Nat) (s : Slot), ss[j]? = some s → ∃ v, vs[j]? = some v ∧ SRel K F H s (some v) ∧ (∀ d, s ≠ .own d) ∧ ∀ d p, s = .rd d → v = .ref p → ¬ no p
  | _, _, _, _, .nil, h, j, s, e => by cases h; simp at e
  | _, _, _, _, .val (ms := ms) (ds := ds) rp r, h, j, s, e => by
    unfold ini at h
    cases q : ini ms ds with
    | none => rw [q] at h; cases h
    | some ss =>
      rw [q] at h; cases h
      cases j with
      | zero => simp at e; subst e; exact ⟨_, rfl, .val rp, fun d z => (by cases z), fun d p z => (by cases z)⟩
      | succ j =>
        obtain ⟨v, k1, k2⟩ := ini_at r q j s (by simpa using e)
        exact ⟨v, by simpa using k1, k2⟩
  | _, _, _, _, .rd (ms := ms) (ds := ds) rp hn r, h, j, s, e => by
    unfold ini at h
    cases q : ini ms ds with
    | none => rw [q] at h; cases h
    | some ss =>
      rw [q] at h; cases h
      cases j with
      | zero => simp at e; subst e; exact ⟨_, rfl, .rd rp, fun d z => (by cases z), fun d p _ e2 => hn p e2⟩
      | succ j =>
        obtain ⟨v, k1, k2⟩ := ini_at r q j s (by simpa using e)
        exact ⟨v, by simpa using k1, k2⟩
section
variable {K : PySem.W.Frag} {F H : Hp}
theorem start_vals {n : Nat} {no : Addr → Prop} {md : List Bool} (ex : Same F H) {vs : List V} {ds : List D} {ss : List Slot} (ra : RaL K F H no md vs ds) (hi : ini md ds = some ss) (hn : vs.length ≤ n) : Rel K F H (ss ++ List.replicate (n - ss.length) .emp) (vs.map some ++ List.replicate (n - vs.length) none) ∧ (∀ p, ¬ Own (ss ++ List.replicate (n - ss.length) .emp) (vs.map some ++ List.replicate (n - vs.length) none) p) ∧
    (∀ (j : Nat) (d : D), (ss ++ List.replicate (n - ss.length) Slot.emp)[j]? = some (Slot.own d) → False) ∧ ∀ (j : Nat) (d : D) (p : Addr), (ss ++ List.replicate (n - ss.length) Slot.emp)[j]? = some (Slot.rd d) → (vs.map some ++ List.replicate (n - vs.length) none)[j]? = some (some (V.ref p)) → ¬ no p := by
  have hl : vs.length = ss.length := ra.len.1.trans (ini_len hi).symm
  have at1 : ∀ (j : Nat) (s : Slot), (ss ++ List.replicate (n - ss.length) Slot.emp)[j]? = some s → s = .emp ∨ ∃ v, (vs.map some ++ List.replicate (n - vs.length) none)[j]? = some (some v) ∧ SRel K F H s (some v) ∧ (∀ d, s ≠ .own d) ∧ ∀ d p, s = .rd d → v = .ref p → ¬ no p := fun j s h1 => by
    by_cases hj : j < ss.length
    · rw [List.getElem?_append_left hj] at h1
      obtain ⟨v, k1, k2⟩ := ini_at ra hi j s h1
      refine .inr ⟨v, ?_, k2⟩
      rw [List.getElem?_append_left (by rw [List.length_map, hl]; exact hj), List.getElem?_map, k1]
      rfl
    · rw [List.getElem?_append_right (by omega)] at h1
      exact .inl (List.eq_of_mem_replicate (List.mem_of_getElem? h1))
  have no1 : ∀ (j : Nat) (d : D), (ss ++ List.replicate (n - ss.length) Slot.emp)[j]? = some (.own d) → False := fun j d h => by
    rcases at1 j _ h with z | ⟨v, _, _, z, _⟩
    · cases z
    · exact z d rfl
  refine ⟨⟨ex, by simp [hl], fun j s o h1 h2 => ?_, fun j _ d _ _ h => (no1 j d h).elim, fun j d p _ _ ⟨k, e, z, _⟩ => no1 k e z⟩, fun p ⟨j, d, h, _⟩ => no1 j d h, no1, fun j d p h1 h2 => ?_⟩
  · rcases at1 j _ h1 with z | ⟨v, k1, k2, _⟩
    · subst z; exact .emp
    · rw [h2] at k1; cases k1; exact k2
  · rcases at1 j _ h1 with z | ⟨v, k1, _, _, k2⟩
    · cases z
    · rw [h2] at k1; cases k1; exact k2 d p rfl rfl
end
section
variable {P : Program} {w : World} {K : PySem.W.Frag} {mg : Str → Option Value} {base : Heap} {cv : String → Value}
abbrev EX (cv : String → Value) (E : XK) : EW := fun c _ H => E (cv c) none H
/-- a def's promise by its body -/
theorem fn_pure {fr : Bool} {x qual : Str} {st : Stmt} {f : Addr} {fd : FuncData} {N ps : List Str} {k : Nat} {body : XS} (md : List Bool) (FN : Fun K x qual st f fd) (S : FnScope N ps (defScope st)) (g : DF) (hg : g = runP md N.length fr body) (hp : ps.length ≤ N.length) (hm : md.length = ps.length)
    (hbody : ∀ (cdv : Value) (A : Around) (outer : List Env) (s : Shared) (H : Hp) (E : XK), Room k (A.deeper (envOfC qual (defScope st) s.heap.objs.size f cdv)) →
      PSs (cxOf (L2.CX P w) P w K mg base N qual (defScope st) f cdv A outer s H E) (defBody st) (lS K (EX cv E) fr body)) : FnOk P w K mg base (L2.CX P w) (k + 1) f fd ps (spP K cv fr md g) := by
  subst hg
  have len : ∀ vs H Q E, spP K cv fr md (runP md N.length fr body) vs H Q E → vs.length = ps.length := fun vs H Q E h => by
    obtain ⟨F, ds, _, ra, h⟩ := h
    exact ra.len.1.trans hm
  refine FN.okX S len fun cdv A outer s H vs Q E hr h => ⟨_, hbody cdv A outer s H E hr, ?_⟩
  have hlen := len vs H Q E h
  obtain ⟨F, ds, ex, ra, h⟩ := h
  unfold runP at h
  cases hi : ini md ds with
  | none => rw [hi] at h; exact h.elim
  | some ss =>
  rw [hi] at h
  simp only at h
  obtain ⟨r, no, _⟩ := start_vals (n := N.length) ex ra hi (by rw [hlen]; exact hp)
  refine ⟨F, _, r, ?_⟩
  have gr : ∀ {ρ' σ' F' H'}, Go K (ss ++ List.replicate (N.length - ss.length) .emp) (vs.map some ++ List.replicate (N.length - vs.length) none) F H ρ' σ' F' H' → Gr F H F' H' := fun {ρ' σ' F' H'} g => by
    refine ⟨g.ex, fun a o e => ?_, g.rel.ex, fun a o n e1 e2 => (g.keep a o e1 e2 (no a)).2 n⟩
    exact g.sameH r e (no a)
  unfold PendS
  split <;> rename_i e <;> simp only [e] at h
  · intro σ' F' H' g
    cases fr with
    | true => simp only [if_true] at h
    | false =>
      simp only [Bool.false_eq_true, if_false] at h
      exact h.1 rfl .non F' H' (gr g) .non
  · refine ⟨fun ef v σ' F' H' g rv => h.1 ef v F' H' (gr g) rv, fun ef p o σ' F' H' g h1 h2 h3 h4 h5 => ?_⟩
    refine h.2 ef p o F' H' (gr g) ?_ h1 h2 h3
    rcases h5 with z | z
    · exact (no p z).elim
    · exact z
  · exact fun σ' F' H' g => h F' H' (gr g)
end
end G


namespace G
open PySem PySem.Spec PyProof.Rows L2

section
variable {P : Program} {w : World} {K : PySem.W.Frag} {mg : Str → Option Value} {base : Heap} {cv : String → Value}
theorem start_bor {F H : Hp} {n : Nat} {md : List Bool} {b : Addr} {o : HO} {d0 : D} {vs : List V} {ds : List D} {ss : List Slot} (ex : Same F H) (hf : F b = none) (hh : H b = some o) (ro : Ro K F b o d0) (ra : RaL K F H (· = b) md vs ds) (hi : ini md ds = some ss) (hn : vs.length + 1 ≤ n) :
    Rel K F H (.own d0 :: ss ++ List.replicate (n - (ss.length + 1)) .emp) (L2.start (List.replicate n "") (.ref b :: vs)) ∧
      (∀ p, Own (.own d0 :: ss ++ List.replicate (n - (ss.length + 1)) .emp) (L2.start (List.replicate n "") (.ref b :: vs)) p → p = b) := by
  have hl : vs.length = ss.length := ra.len.1.trans (ini_len hi).symm
  have es : L2.start (List.replicate n "") (.ref b :: vs) = some (.ref b) :: (vs.map some ++ List.replicate (n - (vs.length + 1)) none) := by
    unfold L2.start
    simp
  rw [es]
  have er : (Slot.own d0 :: ss ++ List.replicate (n - (ss.length + 1)) .emp) = Slot.own d0 :: (ss ++ List.replicate (n - 1 - ss.length) .emp) := by
    rw [List.cons_append, show n - (ss.length + 1) = n - 1 - ss.length by omega]
  rw [er, show n - (vs.length + 1) = n - 1 - vs.length by omega]
  obtain ⟨r, _, no', nr⟩ := start_vals (n := n - 1) ex ra hi (by omega)
  have only : ∀ p, Own (Slot.own d0 :: (ss ++ List.replicate (n - 1 - ss.length) .emp)) (some (.ref b) :: (vs.map some ++ List.replicate (n - 1 - vs.length) none)) p → p = b := fun p h => by
    obtain ⟨j, d, h1, h2⟩ := h
    cases j with
    | zero => simp at h2; exact h2.symm
    | succ j => exact (no' j d (by simpa using h1)).elim
  refine ⟨⟨ex, by rw [List.length_cons, List.length_cons, r.len], fun j s v h1 h2 => ?_, fun j k d1 d2 p h1 h2 h3 h4 => ?_, fun j d p h1 h2 h3 => ?_⟩, only⟩
  · cases j with
    | zero => simp at h1 h2; subst h1 h2; exact .own hf hh ro
    | succ j => exact r.at' j s v (by simpa using h1) (by simpa using h2)
  · cases j with
    | zero =>
      cases k with
      | zero => rfl
      | succ k => exact (no' k d2 (by simpa using h2)).elim
    | succ j => exact (no' j d1 (by simpa using h1)).elim
  · cases j with
    | zero => simp at h1
    | succ j => exact nr j d p (by simpa using h1) (by simpa using h2) (only p h3)
theorem start_len {N : List Str} {vs : List V} : L2.start N vs = L2.start (List.replicate N.length "") vs := by
  unfold L2.start
  rw [List.length_replicate]
theorem slot0_of {F H : Hp} {ρ : Rho} {σ : L2.St} {p' : D} (r : Rel K F H ρ σ) (e : slot0 ρ = [p']) : ρ[0]? = some (.own p') := by
  unfold slot0 at e
  split at e
  · cases e; rfl
  · cases e
/-- .. that changes its first argument; the slots of the parameters are never stored to: h0 -/
theorem fn_bor {fr : Bool} {x qual : Str} {st : Stmt} {f : Addr} {fd : FuncData} {N ps : List Str} {k : Nat} {body : XS} (md : List Bool) (FN : Fun K x qual st f fd) (S : FnScope N ps (defScope st)) (g : DF) (hg : g = runB md N.length fr body) (hp : ps.length ≤ N.length) (hm : md.length + 1 = ps.length)
    (hbody : ∀ (cdv : Value) (A : Around) (outer : List Env) (s : Shared) (H : Hp) (E : XK), Room k (A.deeper (envOfC qual (defScope st) s.heap.objs.size f cdv)) →
      PSs (cxOf (L2.CX P w) P w K mg base N qual (defScope st) f cdv A outer s H E) (defBody st) (lS K (EX cv E) fr body)) : FnOk P w K mg base (L2.CX P w) (k + 1) f fd ps (spB K cv fr md g) := by
  subst hg
  have len : ∀ vs H Q E, spB K cv fr md (runB md N.length fr body) vs H Q E → vs.length = ps.length := fun vs H Q E h => by
    obtain ⟨F, b, o, d0, vs', ds, rfl, _, _, _, _, ra, h⟩ := h
    rw [List.length_cons, ra.len.1, hm]
  refine FN.okX S len fun cdv A outer s H vs Q E hr h => ⟨_, hbody cdv A outer s H E hr, ?_⟩
  have hlen := len vs H Q E h
  obtain ⟨F, b, o, d0, vs', ds, rfl, ex, hf, hh, ro, ra, h⟩ := h
  rw [start_len]
  unfold runB at h
  cases hi : ini md ds with
  | none => simp only [hi] at h
  | some ss =>
  simp only [hi] at h
  obtain ⟨r, only⟩ := start_bor (n := N.length) ex hf hh ro ra hi (by rw [List.length_cons] at hlen; omega)
  refine ⟨F, _, r, ?_⟩
  have s0 : (L2.start (List.replicate N.length "") (.ref b :: vs'))[0]? = some (some (.ref b)) := by unfold L2.start; rfl
  -- what stands at the end
  have ends : ∀ {ρ' : Rho} {σ' : L2.St} {F' H' : Hp} {p' : D}, Go K (.own d0 :: ss ++ List.replicate (N.length - (ss.length + 1)) .emp) (L2.start (List.replicate N.length "") (.ref b :: vs')) F H ρ' σ' F' H' → slot0 ρ' = [p'] →
      GrB b F H F' H' ∧ F' b = none ∧ ∃ o', H' b = some o' ∧ Ro K F' b o' p' := fun {ρ' σ' F' H' p'} g e => by
    obtain ⟨b2, o2, k1, k2, k3, k4⟩ := g.rel.own (slot0_of g.rel e)
    rw [g.low, s0] at k1
    cases k1
    refine ⟨⟨g.ex, g.rel.ex, fun a o ha e1 => ?_⟩, k2, o2, k3, k4⟩
    have hn : ¬ Own (.own d0 :: ss ++ List.replicate (N.length - (ss.length + 1)) .emp) (L2.start (List.replicate N.length "") (.ref b :: vs')) a := fun z => ha (only a z)
    exact ⟨g.sameH r e1 hn, fun n e2 => (g.keep a o e1 e2 hn).2 n⟩
  have hs : ∀ {ρ' : Rho} {σ' : L2.St} {F' H' : Hp}, Go K (.own d0 :: ss ++ List.replicate (N.length - (ss.length + 1)) .emp) (L2.start (List.replicate N.length "") (.ref b :: vs')) F H ρ' σ' F' H' → ∃ p', slot0 ρ' = [p'] := fun {ρ' σ' F' H'} g => by
    obtain ⟨d', hd'⟩ := g.lowO d0 rfl
    refine ⟨d', ?_⟩
    cases ρ' with
    | nil => cases hd'
    | cons x y => cases hd'; rfl
  unfold PendS
  split <;> rename_i e <;> simp only [e] at h
  · intro σ' F' H' g
    cases fr with
    | true => simp only [if_true] at h
    | false =>
      simp only [Bool.false_eq_true, if_false] at h
      obtain ⟨p', hp'⟩ := hs g
      rw [hp'] at h
      obtain ⟨g1, g2, o', g3, g4⟩ := ends g hp'
      exact (h F' H' o' g1 g2 g3 g4).1 trivial .non .non
  · rename_i d ρ'
    refine ⟨fun ef v σ' F' H' g rv => ?_, fun ef p o2 σ' F' H' g h1 h2 h3 h4 h5 => ?_⟩
    · obtain ⟨p', hp'⟩ := hs g
      rw [hp'] at h
      obtain ⟨g1, g2, o', g3, g4⟩ := ends g hp'
      exact (h F' H' o' g1 g2 g3 g4).1 ef v rv
    · obtain ⟨p', hp'⟩ := hs g
      rw [hp'] at h
      obtain ⟨g1, g2, o', g3, g4⟩ := ends g hp'
      refine (h F' H' o' g1 g2 g3 g4).2 ef p o2 ?_ h1 h2 h3
      rcases h5 with z | z
      · exfalso
        have := only p z
        subst this
        refine h4 ⟨0, p', slot0_of g.rel hp', ?_⟩
        rw [g.low, s0]
      · exact z
  · intro σ' F' H' g
    obtain ⟨p', hp'⟩ := hs g
    rw [hp'] at h
    obtain ⟨g1, g2, o', g3, g4⟩ := ends g hp'
    exact h F' H' o' g1 g2 g3 g4
end

inductive AL (K : PySem.W.Frag) (F : Hp) (ρ : Rho) (σ : L2.St) (ban : Nat) : List Bool → List V → List D → Prop
  | nil : AL K F ρ σ ban [] [] []
  | val {v : V} {d : D} {ms : List Bool} {vs : List V} {ds : List D} : Rp K F v d → AL K F ρ σ ban ms vs ds → AL K F ρ σ ban (false :: ms) (v :: vs) (d :: ds)
  | valR {v : V} {d : D} {ms : List Bool} {vs : List V} {ds : List D} : Rp K F v d → nofx d = true → AL K F ρ σ ban ms vs ds → AL K F ρ σ ban (true :: ms) (v :: vs) (d :: ds)
  | own {v : V} {d : D} {ms : List Bool} {vs : List V} {ds : List D} (j : Nat) : j ≠ ban → σ[j]? = some (some v) → rdD j ρ = some d → AL K F ρ σ ban ms vs ds → AL K F ρ σ ban (true :: ms) (v :: vs) (d :: ds)
section
variable {K : PySem.W.Frag} {F H : Hp} {ρ : Rho} {σ : L2.St} {ban : Nat}
theorem rdD_of {j : Nat} {d : D} (h : rdD j ρ = some d) : ρ[j]? = some (.own d) ∨ ρ[j]? = some (.rd d) := by
  unfold rdD at h
  split at h
  · cases h; exact .inl ‹_›
  · cases h; exact .inr ‹_›
  · cases h
theorem AL.ral' {no : Addr → Prop} (r : Rel K F H ρ σ) (hf : ∀ p, no p → F p = none) (ho : ∀ (j : Nat) (d : D) (p : Addr), j ≠ ban → rdD j ρ = some d → σ[j]? = some (some (.ref p)) → ¬ no p) : ∀ {md : List Bool} {vs : List V} {ds : List D}, AL K F ρ σ ban md vs ds → RaL K F H no md vs ds
  | _, _, _, .nil => .nil
  | _, _, _, .val a b => .val a (b.ral' r hf ho)
  | _, _, _, .valR a n b => .rd (.val a n) (fun p e z => by subst e; exact rp_at a n (hf p z)) (b.ral' r hf ho)
  | _, _, _, .own j hj a h b => by
    obtain ⟨v', h1, h2⟩ := r.rd h
    rw [a] at h1
    cases h1
    exact .rd h2 (fun p e => by subst e; exact ho j _ p hj h a) (b.ral' r hf ho)
theorem AL.ral (r : Rel K F H ρ σ) {md : List Bool} {vs : List V} {ds : List D} (h : AL K F ρ σ ban md vs ds) : RaL K F H (fun _ => False) md vs ds := h.ral' r (fun _ z => z.elim) fun _ _ _ _ _ _ z => z
theorem AL.ralB {b : Addr} {d0 : D} (r : Rel K F H ρ σ) (hi : ρ[ban]? = some (.own d0)) (hs : σ[ban]? = some (some (.ref b))) (hf : F b = none) {md : List Bool} {vs : List V} {ds : List D} (h : AL K F ρ σ ban md vs ds) : RaL K F H (· = b) md vs ds :=
  h.ral' r (fun p z => by rw [z]; exact hf) fun j d p hj hd hp z => by
    subst z
    rcases rdD_of hd with k | k
    · exact hj (r.dis j ban d d0 p k hi hp hs)
    · exact r.rdis j d p k hp ⟨ban, d0, hi, hs⟩
def lM (K : PySem.W.Frag) (E : EW) (ban : Nat) (md : List Bool) (t : XA) : TA := fun σ H Q => ∃ F ρ, Rel K F H ρ σ ∧ Pend K E t ρ σ F H fun ds ρ' F' H' => ∀ vs, AL K F' ρ' σ ban md vs ds → Q vs H'
end
section
variable {X : Cx} {E : EW} {ta : XV} {ban : Nat}
theorem xm_nil : PA X [] (lM X.K E ban [] xNil) := pa_imp pa_nil fun σ H Q h => by
  obtain ⟨F, ρ, r, p⟩ := h
  exact p F H (Go.refl r) [] .nil
theorem xm_val {e : Expr} {es : List Expr} {tr : XA} {md : List Bool} (ha : PE X e (lE X.K E ta)) (hr : PA X es (lM X.K E ban md tr)) (hs : starEach (e :: es) X.env = (false, eval e X.env) :: starEach es X.env := by rfl) : PA X (e :: es) (lM X.K E ban (false :: md) (xCons ta tr)) := by
  refine pa_imp (pa_cons ha hr hs) fun σ H Q h => ?_
  obtain ⟨F, ρ, r, p⟩ := h
  refine ⟨F, ρ, r, (Pend.bind r p).mono fun x ρ1 F1 H1 g1 q v rv => ⟨F1, ρ1, g1.rel, (Pend.bind g1.rel q).mono fun xs ρ2 F2 H2 g2 q vs rs => ?_⟩⟩
  exact q F2 H2 (Go.refl g2.rel) (v :: vs) (.val (rv.mono g2.ex) rs)
def xConsR (ta : XV) (tr : XA) : XA := fun ρ => (ta ρ).bind fun x ρ1 => (tr ρ1).bind fun xs ρ2 => if nofx x = true then .ok (x :: xs) ρ2 else .bad
theorem xm_valR {e : Expr} {es : List Expr} {tr : XA} {md : List Bool} (ha : PE X e (lE X.K E ta)) (hr : PA X es (lM X.K E ban md tr)) (hs : starEach (e :: es) X.env = (false, eval e X.env) :: starEach es X.env := by rfl) : PA X (e :: es) (lM X.K E ban (true :: md) (xConsR ta tr)) := by
  refine pa_imp (pa_cons ha hr hs) fun σ H Q h => ?_
  obtain ⟨F, ρ, r, p⟩ := h
  refine ⟨F, ρ, r, (Pend.bind r p).mono fun x ρ1 F1 H1 g1 q v rv => ⟨F1, ρ1, g1.rel, (Pend.bind g1.rel q).mono fun xs ρ2 F2 H2 g2 q vs rs => ?_⟩⟩
  by_cases hn : nofx x = true
  · unfold Pend at q
    simp only [hn, if_true] at q
    exact q F2 H2 (Go.refl g2.rel) (v :: vs) (.valR (rv.mono g2.ex) hn rs)
  · unfold Pend at q
    dsimp only at q
    rw [if_neg hn] at q
    exact q.elim
def xConsO (j : Nat) (tr : XA) : XA := fun ρ => match rdD j ρ with
  | none => .bad
  | some _ => (tr ρ).bind fun ds ρ1 => match rdD j ρ1 with
    | some d => .ok (d :: ds) ρ1
    | none => .bad
theorem xm_own {e : Expr} {es : List Expr} {tr : XA} {md : List Bool} {j : Nat} (ha : PE X e (tVar j)) (hr : PA X es (lM X.K E ban md tr)) (hj : j ≠ ban := by decide) (hs : starEach (e :: es) X.env = (false, eval e X.env) :: starEach es X.env := by rfl) : PA X (e :: es) (lM X.K E ban (true :: md) (xConsO j tr)) := by
  refine pa_imp (pa_cons ha hr hs) fun σ H Q h => ?_
  obtain ⟨F, ρ, r, p⟩ := h
  unfold Pend xConsO at p
  cases e0 : rdD j ρ with
  | none => simp only [e0] at p
  | some d0 =>
    simp only [e0] at p
    obtain ⟨v, h1, _⟩ := r.rd e0
    have p' : Pend X.K E (fun ρ => (tr ρ).bind fun ds ρ1 => match rdD j ρ1 with
      | some d => .ok (d :: ds) ρ1
      | none => .bad) ρ σ F H fun ds ρ' F' H' => ∀ vs, AL X.K F' ρ' σ ban (true :: md) vs ds → Q vs H' := p
    refine ⟨v, h1, F, ρ, r, (Pend.bind r p').mono fun ds ρ1 F1 H1 g1 q vs rs => ?_⟩
    unfold Pend at q
    cases e1 : rdD j ρ1 with
    | none => simp only [e1] at q
    | some d => simp only [e1] at q; exact q F1 H1 (Go.refl g1.rel) (v :: vs) (.own j hj h1 e1 rs)
end

abbrev EWx (cv : String → Value) (W : WX) : EW := fun c σ H => W (cv c) none σ H
def FR.res (r : FR) (ρ : Rho) : Res D := match r with
  | .ok d _ => .ok d ρ
  | .exc c _ => .exc c ρ
  | .bad => .bad
def xCall (g : DF) (t : XA) : XV := fun ρ => (t ρ).bind fun ds ρ1 => (g ds).res ρ1
section
variable {X : Cx} {cv : String → Value} {pos : Pos} {W : WX}
theorem call_of {ban : Nat} {md : List Bool} {g : DF} {t : XA} {σ : L2.St} {H : Hp} {Q : VK} (h : lE X.K (EWx cv W) (xCall g t) σ H Q) : tCallS (spP X.K cv false md g) (WE W) (lM X.K (EWx cv W) ban md t) σ H Q := by
  obtain ⟨F, ρ, r, p⟩ := h
  refine ⟨F, ρ, r, (Pend.bind r p).mono fun ds ρ1 F1 H1 g1 q vs ra => ⟨F1, ds, g1.rel.ex, ra.ral g1.rel, ?_⟩⟩
  unfold Pend FR.res at q
  cases e : g ds with
  | ok d ps => simp only [e] at q; exact ⟨fun _ => outV_of g1.rel q, fun z => by cases z⟩
  | exc c ps => simp only [e] at q; exact fun F' H' gr => q F' H' (gr.go g1.rel)
  | bad => simp only [e] at q
theorem callN_of {ban : Nat} {md : List Bool} {g : DF} {t : XA} {σ : L2.St} {H : Hp} {Q : VK} (h : lN X.K (EWx cv W) (xCall g t) σ H Q) : tCallS (spP X.K cv true md g) (WE W) (lM X.K (EWx cv W) ban md t) σ H Q := by
  obtain ⟨F, ρ, r, p⟩ := h
  refine ⟨F, ρ, r, (Pend.bind r p).mono fun ds ρ1 F1 H1 g1 q vs ra => ⟨F1, ds, g1.rel.ex, ra.ral g1.rel, ?_⟩⟩
  unfold Pend FR.res at q
  cases e : g ds with
  | ok d ps => simp only [e] at q; exact ⟨fun z => (by cases z), fun _ => outN_of r g1 q⟩
  | exc c ps => simp only [e] at q; exact fun F' H' gr => q F' H' (gr.go g1.rel)
  | bad => simp only [e] at q
theorem xe_call {ban : Nat} {md : List Bool} {k : Nat} {f : Addr} {fd : FuncData} {ps : List Str} {g : DF} {x : Str} {p : Pos} {e : Expr} {es : List Expr} {t : XA} (tk : Takes X W) (FN : FnOk X.prog X.w X.K X.mg X.base (L2.CX X.prog X.w) k f fd ps (spP X.K cv false md g)) (hr : Room k X.A) (hg : Gl X x) (hm : X.mg x = some (.ref f)) (hk : PySem.W.keepIn X.K (.ref f) = true) (hb : Binds X.K fd ps [])
    (ha : PA X (e :: es) (lM X.K (EWx cv W) ban md t)) (hdb : (x == ("__debug__" : Str)) = false := by decide) (he : starEach (e :: es) X.env = (false, eval e X.env) :: starEach es X.env := by rfl) (hpl : (backTo pos (starEach es X.env)).any (·.1) = false := by rfl) :
    PE X (.Call (.Name x p) (e :: es) [] pos) (lE X.K (EWx cv W) (xCall g t)) := pe_imp (pe_callS FN hr hg hm hk hb (passAt tk) ha hdb he hpl) fun σ H Q h => call_of h
theorem xn_call {ban : Nat} {md : List Bool} {k : Nat} {f : Addr} {fd : FuncData} {ps : List Str} {g : DF} {x : Str} {p : Pos} {e : Expr} {es : List Expr} {t : XA} (tk : Takes X W) (FN : FnOk X.prog X.w X.K X.mg X.base (L2.CX X.prog X.w) k f fd ps (spP X.K cv true md g)) (hr : Room k X.A) (hg : Gl X x) (hm : X.mg x = some (.ref f)) (hk : PySem.W.keepIn X.K (.ref f) = true) (hb : Binds X.K fd ps [])
    (ha : PA X (e :: es) (lM X.K (EWx cv W) ban md t)) (hdb : (x == ("__debug__" : Str)) = false := by decide) (he : starEach (e :: es) X.env = (false, eval e X.env) :: starEach es X.env := by rfl) (hpl : (backTo pos (starEach es X.env)).any (·.1) = false := by rfl) :
    PE X (.Call (.Name x p) (e :: es) [] pos) (lN X.K (EWx cv W) (xCall g t)) := pe_imp (pe_callS FN hr hg hm hk hb (passAt tk) ha hdb he hpl) fun σ H Q h => callN_of h
/-- f() -/
theorem pe_call0S {CX : CXT} {k : Nat} {f : Addr} {fd : FuncData} {sp : Sp} {E : L2.St → XK} {x : Str} {p : Pos} (FN : FnOk X.prog X.w X.K X.mg X.base CX k f fd [] sp) (hr : Room k X.A) (hg : Gl X x) (hm : X.mg x = some (.ref f)) (hk : PySem.W.keepIn X.K (.ref f) = true) (hb : Binds X.K fd [] []) (hx : ∀ σ, PassesAt CX X σ (E σ))
    (hdb : (x == ("__debug__" : Str)) = false := by decide) : PE X (.Call (.Name x p) [] [] pos) (tCallS sp E tNil) := by
  refine ⟨fun pins s σ H Q I h => ?_⟩
  refine wpAny_Call_Name_kw (ld_glob I hg hm ?_ hdb)
  exact PySem.W.callWith_K0 I.kIn hk (run_fnS (us := []) FN hr hb (hx σ) I .nil h)
theorem nilA {ban : Nat} {E : EW} {sp : Sp} {E' : L2.St → XK} {σ : L2.St} {H : Hp} {Q : VK} (h : tCallS sp E' (lM X.K E ban [] xNil) σ H Q) : tCallS sp E' tNil σ H Q := by
  obtain ⟨F, ρ, r, p⟩ := h
  exact p F H (Go.refl r) [] .nil
theorem xn_call0 {k : Nat} {f : Addr} {fd : FuncData} {g : DF} {x : Str} {p : Pos} (tk : Takes X W) (FN : FnOk X.prog X.w X.K X.mg X.base (L2.CX X.prog X.w) k f fd [] (spP X.K cv true [] g)) (hr : Room k X.A) (hg : Gl X x) (hm : X.mg x = some (.ref f)) (hk : PySem.W.keepIn X.K (.ref f) = true) (hb : Binds X.K fd [] [])
    (hdb : (x == ("__debug__" : Str)) = false := by decide) : PE X (.Call (.Name x p) [] [] pos) (lN X.K (EWx cv W) (xCall g xNil)) := pe_imp (pe_call0S FN hr hg hm hk hb (passAt tk) hdb) fun σ H Q h => nilA (ban := 0) (callN_of h)
/-- f(x, ..), f changes the object of x -/
def ownD (i : Nat) (ρ : Rho) : Option D := match ρ[i]? with
  | some (.own d) => some d
  | _ => none
theorem ownD_of {i : Nat} {ρ : Rho} {d : D} (h : ownD i ρ = some d) : ρ[i]? = some (.own d) := by
  unfold ownD at h
  split at h
  · rename_i e
    cases h
    exact e
  · cases h
def FR.resB (r : FR) (i : Nat) (ρ : Rho) : Res D := match r with
  | .ok d [p] => .ok d (ρ.set i (.own p))
  | .exc c [p] => .exc c (ρ.set i (.own p))
  | _ => .bad
def xCallB (g : DF) (i : Nat) (t : XA) : XV := fun ρ => match ownD i ρ with
  | none => .bad
  | some _ => (t ρ).bind fun ds ρ1 => match ownD i ρ1 with
    | none => .bad
    | some d0 => (g (d0 :: ds)).resB i ρ1
/-- behind such a call -/
theorem go_bor {K : PySem.W.Frag} {F H F' H' : Hp} {ρ : Rho} {σ : L2.St} {i : Nat} {b : Addr} {o' : HO} {d0 p' : D} (r : Rel K F H ρ σ) (hi : ρ[i]? = some (.own d0)) (hs : σ[i]? = some (some (.ref b))) (g : GrB b F H F' H') (hf : F' b = none) (hh : H' b = some o') (ro : Ro K F' b o' p') :
    Go K ρ σ F H (ρ.set i (.own p')) σ F' H' where
  rel := by
    refine ⟨g.sub, by rw [List.length_set]; exact r.len, fun j s v g1 g2 => ?_, fun j k d1 d2 q g1 g2 g3 g4 => ?_, fun j d1 q g1 g2 g3 => ?_⟩
    rotate_right
    · rcases get_set g1 with ⟨_, z⟩ | ⟨hj, g1⟩
      · cases z
      · refine r.rdis j d1 q g1 g2 ?_
        obtain ⟨k, e, k1, k2⟩ := g3
        rcases get_set k1 with ⟨ek, _⟩ | ⟨_, k1⟩
        · subst ek; exact ⟨_, d0, hi, k2⟩
        · exact ⟨k, e, k1, k2⟩
    · rcases get_set g1 with ⟨e, rfl⟩ | ⟨hj, g1⟩
      · subst e
        rw [hs] at g2
        cases g2
        exact .own hf hh ro
      · have z := r.at' j s v g1 g2
        cases z with
        | emp => exact .emp
        | adr => exact .adr
        | val rp => exact .val (rp.mono g.ex)
        | @own p o d z1 z2 z3 =>
          have hne : p ≠ b := by
            rintro rfl
            exact hj (r.dis i j _ _ _ hi g1 hs g2)
          obtain ⟨k1, k2⟩ := g.keep p o hne z2
          exact .own (k2 z3.nt z1) k1 (z3.mono g.ex)
        | rd ra =>
          refine .rd (ra.step g.ex fun p u hn eq e1 e2 => ?_)
          subst eq
          have hne : p ≠ b := by
            rintro rfl
            exact r.rdis j _ _ g1 g2 ⟨i, d0, hi, hs⟩
          obtain ⟨k1, k2⟩ := g.keep p u hne e1
          exact ⟨k1, k2 hn e2⟩
    · have own_of : ∀ (m : Nat) (e : D), (ρ.set i (Slot.own p'))[m]? = some (Slot.own e) → ∃ e' : D, ρ[m]? = some (Slot.own e') := fun m e h => by
        rcases get_set h with ⟨e1, _⟩ | ⟨_, h⟩
        · subst e1; exact ⟨_, hi⟩
        · exact ⟨_, h⟩
      obtain ⟨e1, q1⟩ := own_of _ _ g1
      obtain ⟨e2, q2⟩ := own_of _ _ g2
      exact r.dis j k e1 e2 q q1 q2 g3 g4
  ex := g.ex
  keep := fun a u g1 g2 g3 => by
    obtain ⟨k1, k2⟩ := g.keep a u (by
      rintro rfl
      exact g3 ⟨i, d0, hi, hs⟩) g1
    exact ⟨k1, fun n => k2 n g2⟩
  own := fun q h => by
    obtain ⟨j, e, q1, q2⟩ := h
    rcases get_set q1 with ⟨e1, _⟩ | ⟨_, q1⟩
    · subst e1
      exact .inl ⟨_, d0, hi, q2⟩
    · exact .inl ⟨j, e, q1, q2⟩
  low := rfl
  lowO := fun d h => by
    by_cases h0 : i = 0
    · subst h0
      exact ⟨p', by rw [List.getElem?_set_self (by cases Nat.lt_or_ge 0 ρ.length with | inl z => exact z | inr z => rw [List.getElem?_eq_none z] at h; cases h)]⟩
    · exact ⟨d, by rw [List.getElem?_set_ne h0]; exact h⟩
  rdb := fun j e h => by
    rcases get_set h with ⟨_, q⟩ | ⟨_, h⟩
    · cases q
    · exact ⟨h, rfl⟩
theorem callB_of {md : List Bool} {fr : Bool} {g : DF} {i : Nat} {t : XA} {σ : L2.St} {H : Hp} {Q : VK}
    (h : ∃ F ρ, Rel X.K F H ρ σ ∧ Pend X.K (EWx cv W) (xCallB g i t) ρ σ F H fun d ρ' F' H' => (fr = false → ∀ v, Rp X.K F' v d → Q v H') ∧ (fr = true → ∀ p o, F' p = none → H' p = some o → Ro X.K F' p o d → ¬ Own ρ' σ p → (Own ρ σ p ∨ H p = none) → Q (.ref p) H')) :
    tCallS (spB X.K cv fr md g) (WE W) (tCons (tVar i) (lM X.K (EWx cv W) i md t)) σ H Q := by
  obtain ⟨F, ρ, r, p⟩ := h
  unfold xCallB at p
  cases e0 : ownD i ρ with
  | none => unfold Pend at p; simp only [e0] at p
  | some d00 =>
    obtain ⟨b, o, h1, h2, h3, h4⟩ := r.own (ownD_of e0)
    have p' : Pend X.K (EWx cv W) (fun ρ => (t ρ).bind fun ds ρ1 => match ownD i ρ1 with
      | none => .bad
      | some d0 => (g (d0 :: ds)).resB i ρ1) ρ σ F H fun d ρ' F' H' => (fr = false → ∀ v, Rp X.K F' v d → Q v H') ∧ (fr = true → ∀ p o, F' p = none → H' p = some o → Ro X.K F' p o d → ¬ Own ρ' σ p → (Own ρ σ p ∨ H p = none) → Q (.ref p) H') := by
      unfold Pend at p ⊢
      simp only [e0] at p
      exact p
    refine ⟨.ref b, h1, F, ρ, r, (Pend.bind r p').mono fun ds ρ1 F1 H1 g1 q vs ra => ?_⟩
    unfold Pend at q
    cases e1 : ownD i ρ1 with
    | none => simp only [e1] at q
    | some d0 =>
      simp only [e1] at q
      obtain ⟨b1, o1, k1, k2, k3, k4⟩ := g1.rel.own (ownD_of e1)
      rw [h1] at k1
      cases k1
      refine ⟨F1, b, o1, d0, vs, ds, rfl, g1.rel.ex, k2, k3, k4, ra.ralB g1.rel (ownD_of e1) h1 k2, ?_⟩
      unfold FR.resB at q
      split <;> rename_i e2 <;> simp only [e2] at q
      · intro F2 H2 o2 gr z1 z2 z3
        have g2 := go_bor g1.rel (ownD_of e1) h1 gr z1 z2 z3
        obtain ⟨m1, m2⟩ := q F2 H2 g2
        refine ⟨m1, fun ef p o3 hp y1 y2 y3 => m2 ef p o3 y1 y2 y3 (fun z => ?_) (own_back r g1 (.inr hp))⟩
        rcases g2.own p z with z | z
        · exact not_own_new g1.rel hp z
        · obtain ⟨j, dj, zz1, zz2⟩ := id ‹Own _ _ p›
          rcases get_set zz1 with ⟨ej, _⟩ | ⟨_, zz1⟩
          · subst ej
            rw [h1] at zz2
            cases zz2
            rw [hp] at k3; cases k3
          · exact not_own_new g1.rel hp ⟨j, dj, zz1, zz2⟩
      · exact fun F2 H2 o2 gr z1 z2 z3 => q F2 H2 (go_bor g1.rel (ownD_of e1) h1 gr z1 z2 z3)
theorem lE_B {md : List Bool} {g : DF} {i : Nat} {t : XA} {σ : L2.St} {H : Hp} {Q : VK} (h : lE X.K (EWx cv W) (xCallB g i t) σ H Q) : tCallS (spB X.K cv false md g) (WE W) (tCons (tVar i) (lM X.K (EWx cv W) i md t)) σ H Q := by
  obtain ⟨F, ρ, r, p⟩ := h
  exact callB_of ⟨F, ρ, r, p.mono fun d ρ' F' H' g q => ⟨fun _ => q, fun z => by cases z⟩⟩
theorem lN_B {md : List Bool} {g : DF} {i : Nat} {t : XA} {σ : L2.St} {H : Hp} {Q : VK} (h : lN X.K (EWx cv W) (xCallB g i t) σ H Q) : tCallS (spB X.K cv true md g) (WE W) (tCons (tVar i) (lM X.K (EWx cv W) i md t)) σ H Q := by
  obtain ⟨F, ρ, r, p⟩ := h
  exact callB_of ⟨F, ρ, r, p.mono fun d ρ' F' H' g q => ⟨fun z => (by cases z), fun _ => q⟩⟩
theorem xe_callBor {md : List Bool} {k : Nat} {f : Addr} {fd : FuncData} {ps : List Str} {g : DF} {x y : Str} {p yp : Pos} {es : List Expr} {i : Nat} {t : XA} (tk : Takes X W) (FN : FnOk X.prog X.w X.K X.mg X.base (L2.CX X.prog X.w) k f fd ps (spB X.K cv false md g)) (hr : Room k X.A) (hg : Gl X x) (hm : X.mg x = some (.ref f)) (hk : PySem.W.keepIn X.K (.ref f) = true) (hb : Binds X.K fd ps [])
    (hy : PE X (.Name y yp) (tVar i)) (ha : PA X es (lM X.K (EWx cv W) i md t)) (hdb : (x == ("__debug__" : Str)) = false := by decide) (he : starEach (.Name y yp :: es) X.env = (false, eval (.Name y yp) X.env) :: starEach es X.env := by rfl) (hpl : (backTo pos (starEach es X.env)).any (·.1) = false := by rfl) :
    PE X (.Call (.Name x p) (.Name y yp :: es) [] pos) (lE X.K (EWx cv W) (xCallB g i t)) := pe_imp (pe_callS FN hr hg hm hk hb (passAt tk) (pa_cons hy ha he) hdb he hpl) fun σ H Q h => lE_B h
theorem xn_callBor {md : List Bool} {k : Nat} {f : Addr} {fd : FuncData} {ps : List Str} {g : DF} {x y : Str} {p yp : Pos} {es : List Expr} {i : Nat} {t : XA} (tk : Takes X W) (FN : FnOk X.prog X.w X.K X.mg X.base (L2.CX X.prog X.w) k f fd ps (spB X.K cv true md g)) (hr : Room k X.A) (hg : Gl X x) (hm : X.mg x = some (.ref f)) (hk : PySem.W.keepIn X.K (.ref f) = true) (hb : Binds X.K fd ps [])
    (hy : PE X (.Name y yp) (tVar i)) (ha : PA X es (lM X.K (EWx cv W) i md t)) (hdb : (x == ("__debug__" : Str)) = false := by decide) (he : starEach (.Name y yp :: es) X.env = (false, eval (.Name y yp) X.env) :: starEach es X.env := by rfl) (hpl : (backTo pos (starEach es X.env)).any (·.1) = false := by rfl) :
    PE X (.Call (.Name x p) (.Name y yp :: es) [] pos) (lN X.K (EWx cv W) (xCallB g i t)) := pe_imp (pe_callS FN hr hg hm hk hb (passAt tk) (pa_cons hy ha he) hdb he hpl) fun σ H Q h => lN_B h
end
end G


namespace G
open PySem PySem.Spec PyProof.Rows L2

def d2I (C : Int → Int → Prop) [∀ i j, Decidable (C i j)] (g : Int → Int → D) : D → D → Option D
  | .int i, .int j => if C i j then some (g i j) else none
  | _, _ => none
def d2I0 (g : Int → Int → D) : D → D → Option D
  | .int i, .int j => some (g i j)
  | _, _ => none
theorem d2I_of {C : Int → Int → Prop} [∀ i j, Decidable (C i j)] {g : Int → Int → D} {x y d : D} (h : d2I C g x y = some d) : ∃ i j, x = .int i ∧ y = .int j ∧ C i j ∧ d = g i j := by
  unfold d2I at h
  split at h
  · split at h
    · cases h; exact ⟨_, _, rfl, rfl, by assumption, rfl⟩
    · cases h
  · cases h
theorem d2I0_of {g : Int → Int → D} {x y d : D} (h : d2I0 g x y = some d) : ∃ i j, x = .int i ∧ y = .int j ∧ d = g i j := by
  unfold d2I0 at h
  split at h
  · cases h; exact ⟨_, _, rfl, rfl, rfl⟩
  · cases h
theorem imp_I {K : PySem.W.Frag} {C : Int → Int → Prop} [∀ i j, Decidable (C i j)] {g : Int → Int → D} {gv : Int → Int → V} (hg : ∀ F i j, Rp K F (gv i j) (g i j)) : Imp2 K (d2I C g) (rI C gv) := fun F H v w x y d Q ex rv rw e o => by
  obtain ⟨i, j, rfl, rfl, hc, rfl⟩ := d2I_of e
  cases rv; cases rw
  exact ⟨i, j, rfl, rfl, hc, o.here ex (hg F i j)⟩
theorem imp_I0 {K : PySem.W.Frag} {g : Int → Int → D} {gv : Int → Int → V} (hg : ∀ F i j, Rp K F (gv i j) (g i j)) : Imp2 K (d2I0 g) (rI0 gv) := fun F H v w x y d Q ex rv rw e o => by
  obtain ⟨i, j, rfl, rfl, rfl⟩ := d2I0_of e
  cases rv; cases rw
  exact ⟨i, j, rfl, rfl, o.here ex (hg F i j)⟩
def dAddS : D → D → Option D
  | .str a, .str b => if a.length + b.length ≤ sizeLine then some (.str (a ++ b)) else none
  | _, _ => none
def dAddT : D → D → Option D
  | .tup a, .tup b => if a ≠ [] ∧ a.length + b.length ≤ sizeLine then some (.tup (a ++ b)) else none
  | _, _ => none
def dAddL : D → D → Option D
  | .lst a, .lst b => if a.length + b.length ≤ sizeLine then some (.lst (a ++ b)) else none
  | _, _ => none
instance (a : List D) : Decidable (a = []) := match a with
  | [] => isTrue rfl
  | _ :: _ => isFalse (fun h => nomatch h)
def dAdd : D → D → Option D
  | .int i, .int j => some (.int (i + j))
  | .str a, .str b => dAddS (.str a) (.str b)
  | .tup a, .tup b => dAddT (.tup a) (.tup b)
  | .lst a, .lst b => dAddL (.lst a) (.lst b)
  | _, _ => none
def rAddAll (K : PySem.W.Frag) : R2 := fun x y H Q => (rI0 fun i j => .int (i + j)) x y H Q ∨ (fun x y H Q => ∃ i j, x = .str i ∧ y = .str j ∧ i.length + j.length ≤ sizeLine ∧ Q (.str (i ++ j)) H) x y H Q ∨ rCatT K x y H Q ∨ rCat x y H Q
theorem op_addAll {X : Cx} : OpR X (binaryOp .Add) (rAddAll X.K) := op_add.or (op_add_str.or (op_catT.or op_cat))
theorem imp_add {K : PySem.W.Frag} : Imp2 K dAdd (rAddAll K) := fun F H v w x y d Q ex rv rw e o => by
  unfold dAdd at e
  split at e
  · cases e; cases rv; cases rw
    exact .inl ⟨_, _, rfl, rfl, o.here ex (.int _)⟩
  · unfold dAddS at e
    simp only at e
    split at e
    · cases e; cases rv; cases rw
      exact .inr (.inl ⟨_, _, rfl, rfl, by assumption, o.here ex (.str _)⟩)
    · cases e
  · unfold dAddT at e
    simp only at e
    split at e
    · rename_i a b hc
      cases e
      cases rv with
      | tup hf ra =>
        rename_i p xs
        cases rw with
        | tup hf' rb =>
          rename_i q ys
          refine .inr (.inr (.inl ⟨p, q, xs, ys, rfl, rfl, SqT.of (ex _ _ hf), SqT.of (ex _ _ hf'), ?_, by rw [ra.length, rb.length]; exact hc.2, fun hn => ?_, fun hn r hr => ?_⟩))
          · rintro rfl
            cases ra
            exact hc.1 rfl
          · subst hn
            cases rb
            rw [List.append_nil] at o
            exact o.here ex (.tup hf ra)
          · have g := Gr.new (o := .tup (xs ++ ys)) ex hr
            exact o.new ex hr (.tup upd_same ((ra.append rb).mono g.ex))
    · cases e
  · unfold dAddL at e
    simp only at e
    split at e
    · rename_i a b hc
      cases e
      cases rv with
      | lst hf ra =>
        rename_i p xs
        cases rw with
        | lst hf' rb =>
          rename_i q ys
          refine .inr (.inr (.inr ⟨p, q, xs, ys, rfl, rfl, ex _ _ hf, ex _ _ hf', by rw [ra.length, rb.length]; exact hc, fun r hr => ?_⟩))
          have g := Gr.new (o := .lst (xs ++ ys)) ex hr
          exact o.new ex hr (.lst upd_same ((ra.append rb).mono g.ex))
    · cases e
  · cases e
def dSub := d2I0 fun i j => .int (i - j)
instance (i j : Int) : Decidable (CMulW i j) := by unfold CMulW; infer_instance
instance (i j : Int) : Decidable (CDivW i j) := by unfold CDivW; infer_instance
instance (i j : Int) : Decidable (CPow i j) := by unfold CPow; infer_instance
instance (i j : Int) : Decidable (CMul i j) := by unfold CMul; infer_instance
def CMulA (i j : Int) : Prop := CMul i j ∨ CMulW i j
instance (i j : Int) : Decidable (CMulA i j) := by unfold CMulA; infer_instance
theorem op_mulA {X : Cx} : OpR X (binaryOp .Mult) (rI CMulA fun i j => .int (i * j)) := opI fun _ _ _ _ _ _ _ hc q => mul_int q (hc.elim CMul.ok CMulW.ok)
def dMul := d2I CMulA fun i j => .int (i * j)
def dDiv := d2I CDivW fun i j => .int (i / j)
def dMod := d2I (fun _ j => 0 < j) fun i j => .int (i % j)
def dPow := d2I CPow fun i j => .int (i ^ j.toNat)
def dShl := d2I CPow fun i j => .int (i * 2 ^ j.toNat)
def dShr := d2I (fun _ j => 0 ≤ j) fun i j => .int (i / 2 ^ j.toNat)
def dAnd := d2I0 fun i j => .int (Builtin.bitAnd i j)
def dNeg : D → Option D
  | .int i => some (.int (-i))
  | _ => none
theorem imp_neg {K : PySem.W.Frag} : Imp1 K dNeg (rU fun i => .int (-i)) := fun F H v x d Q ex rv e o => by
  unfold dNeg at e
  split at e
  · cases e; cases rv
    exact ⟨_, rfl, o.here ex (.int _)⟩
  · cases e
def dCmp (p : Int → Int → Bool) := d2I0 fun i j => .bl (p i j)
def tupInts : List D → Option (List Int)
  | [] => some []
  | .int i :: r => (tupInts r).map (i :: ·)
  | _ => none
theorem tupInts_of : ∀ {ds : List D} {ns : List Int}, tupInts ds = some ns → ds = ns.map D.int
  | [], ns, h => by cases h; rfl
  | .int i :: r, ns, h => by
    unfold tupInts at h
    cases q : tupInts r with
    | none => rw [q] at h; cases h
    | some ms => rw [q] at h; cases h; rw [tupInts_of q]; rfl
  | .non :: _, _, h => by cases h
  | .bl _ :: _, _, h => by cases h
  | .str _ :: _, _, h => by cases h
  | .ty _ :: _, _, h => by cases h
  | .tup _ :: _, _, h => by cases h
  | .lst _ :: _, _, h => by cases h
  | .fix _ :: _, _, h => by cases h
  | .dicK _ _ :: _, _, h => by cases h
  | .dicT _ _ :: _, _, h => by cases h
def dLt : D → D → Option D
  | .int i, .int j => some (.bl (decide (i < j)))
  | .tup a, .tup b => match tupInts a, tupInts b with
    | some ns, some ms => some (.bl (HT.lexLt ns ms))
    | _, _ => none
  | _, _ => none
theorem imp_lt {K : PySem.W.Frag} : Imp2 K dLt (fun v w H Q => (rI0 fun i j => .bl (decide (i < j))) v w H Q ∨ rLtT K v w H Q) := fun F H v w x y d Q ex rv rw e o => by
  unfold dLt at e
  split at e
  · cases e; cases rv; cases rw
    exact .inl ⟨_, _, rfl, rfl, o.here ex (.bl _)⟩
  · split at e
    · rename_i ns ms q1 q2
      cases e
      cases rv with
      | tup hf ra =>
        rename_i p xs
        cases rw with
        | tup hf' rb =>
          rename_i q ys
          rw [tupInts_of q1] at ra
          rw [tupInts_of q2] at rb
          rw [ra.ints] at hf
          rw [rb.ints] at hf'
          exact .inr ⟨p, q, ns, ms, rfl, rfl, SqT.of (ex _ _ hf), SqT.of (ex _ _ hf'), o.here ex (.bl _)⟩
    · cases e
  · cases e
theorem op_ltAll {X : Cx} (hu : X.A.units < cLine) : OpR X (compareOp .Lt) (fun v w H Q => (rI0 fun i j => .bl (decide (i < j))) v w H Q ∨ rLtT X.K v w H Q) := op_lt.or (op_ltT hu)
mutual
def toPy : D → Option PyData
  | .non => some .none
  | .bl b => some (.bool b)
  | .int i => some (.int i)
  | .str x => some (.str x)
  | .tup ds => (toPys ds).map .tuple
  | .lst ds => (toPys ds).map .list
  | _ => none
def toPys : List D → Option (List PyData)
  | [] => some []
  | d :: ds => match toPy d, toPys ds with
    | some x, some xs => some (x :: xs)
    | _, _ => none
end
section
variable {K : PySem.W.Frag} {F : Hp}
mutual
theorem rp_dp : ∀ (d : D) (v : V) (x : PyData), Rp K F v d → toPy d = some x → Dp K F v x
  | .non, _, _, h, e => by cases h; simp only [toPy] at e; cases e; exact .non
  | .bl b, _, _, h, e => by cases h; simp only [toPy] at e; cases e; exact .bl b
  | .int i, _, _, h, e => by cases h; simp only [toPy] at e; cases e; exact .int i
  | .str i, _, _, h, e => by cases h; simp only [toPy] at e; cases e; exact .str i
  | .ty _, _, _, _, e => by simp only [toPy] at e; cases e
  | .dicK _ _, _, _, _, e => by simp only [toPy] at e; cases e
  | .dicT _ _, _, _, _, e => by simp only [toPy] at e; cases e
  | .tup ds, _, _, h, e => by
    simp only [toPy] at e
    cases h with
    | tup hf ra =>
      cases q : toPys ds with
      | none => rw [q] at e; cases e
      | some xs => rw [q] at e; cases e; exact .tup (SqT.of hf) (rp_dps ds _ xs ra q)
  | .lst ds, _, _, h, e => by
    simp only [toPy] at e
    cases h with
    | lst hf ra =>
      cases q : toPys ds with
      | none => rw [q] at e; cases e
      | some xs => rw [q] at e; cases e; exact .lst (SqL.of hf) (rp_dps ds _ xs ra q)
  | .fix ds, _, _, h, e => by simp only [toPy] at e; cases e
theorem rp_dps : ∀ (ds : List D) (vs : List V) (xs : List PyData), RpAll K F vs ds → toPys ds = some xs → DpAll K F vs xs
  | [], _, _, h, e => by cases h; simp only [toPys] at e; cases e; exact .nil
  | d :: ds, _, _, h, e => by
    cases h with
    | cons h1 h2 =>
      simp only [toPys] at e
      cases q1 : toPy d with
      | none => rw [q1] at e; cases e
      | some x =>
        cases q2 : toPys ds with
        | none => rw [q1, q2] at e; cases e
        | some xs => rw [q1, q2] at e; cases e; exact .cons (rp_dp d _ x h1 q1) (rp_dps ds _ xs h2 q2)
end
theorem dp_same {H H' : Hp} (e : Same H H') {v : V} {x : PyData} (h : Dp K H v x) : Dp K H' v x := by
  refine Dp.rec (motive_1 := fun v d _ => Dp K H' v d) (motive_2 := fun vs ds _ => DpAll K H' vs ds) ?_ ?_ ?_ ?_ ?_ ?_ ?_ ?_ h
  · exact .non
  · exact fun b => .bl b
  · exact fun i => .int i
  · exact fun x => .str x
  · exact fun h _ r => .lst (e.seq h) r
  · exact fun h _ r => .tup (same_seqT e h) r
  · exact .nil
  · exact fun _ _ r1 r2 => .cons r1 r2
end
/-- a == b -/
def eqD (x y : D) : Option Bool := match toPy x, toPy y with
  | some a, some b => if SeqAt.shaped a = true ∧ SeqAt.shaped b = true then some (PyData.eqv a b) else none
  | _, _ => none
def dEq (x y : D) : Option D := (eqD x y).map .bl
def dNe (x y : D) : Option D := (eqD x y).map fun b => .bl (!b)
theorem eqD_of {x y : D} {c : Bool} (h : eqD x y = some c) : ∃ a b, toPy x = some a ∧ toPy y = some b ∧ SeqAt.shaped a = true ∧ SeqAt.shaped b = true ∧ c = PyData.eqv a b := by
  unfold eqD at h
  split at h
  · rename_i a b e1 e2
    split at h
    · rename_i hc
      cases h
      exact ⟨a, b, e1, e2, hc.1, hc.2, rfl⟩
    · cases h
  · cases h
theorem imp_eq {K : PySem.W.Frag} : Imp2 K dEq (rEqD K) := fun F H v w x y d Q ex rv rw e o => by
  unfold dEq at e
  cases q : eqD x y with
  | none => rw [q] at e; cases e
  | some c =>
    rw [q] at e
    cases e
    obtain ⟨a, b, h1, h2, h3, h4, rfl⟩ := eqD_of q
    exact ⟨a, b, dp_same ex (rp_dp _ _ _ rv h1), dp_same ex (rp_dp _ _ _ rw h2), h3, h4, o.here ex (.bl _)⟩
theorem imp_ne {K : PySem.W.Frag} : Imp2 K dNe (rNeD K) := fun F H v w x y d Q ex rv rw e o => by
  unfold dNe at e
  cases q : eqD x y with
  | none => rw [q] at e; cases e
  | some c =>
    rw [q] at e
    cases e
    obtain ⟨a, b, h1, h2, h3, h4, rfl⟩ := eqD_of q
    exact ⟨a, b, dp_same ex (rp_dp _ _ _ rv h1), dp_same ex (rp_dp _ _ _ rw h2), h3, h4, o.here ex (.bl _)⟩
/-- x in xs, a list, data of any depth -/
def inD (x y : D) : Option Bool := match toPy x, (match y with | .lst ds => toPys ds | _ => none) with
  | some a, some bs => if SeqAt.shaped a = true ∧ SeqAt.shaped (.list bs) = true then some (bs.any fun z => PyData.eqv z a) else none
  | _, _ => none
def dIn (x y : D) : Option D := (inD x y).map .bl
def dNotIn (x y : D) : Option D := (inD x y).map fun b => .bl (!b)
theorem inD_of {K : PySem.W.Frag} {F : Hp} {x y : D} {w : V} {c : Bool} (rw : Rp K F w y) (h : inD x y = some c) : ∃ a bs, toPy x = some a ∧ Dp K F w (.list bs) ∧ SeqAt.shaped a = true ∧ SeqAt.shaped (.list bs) = true ∧ c = bs.any fun z => PyData.eqv z a := by
  unfold inD at h
  cases q1 : toPy x with
  | none => rw [q1] at h; cases h
  | some a =>
    rw [q1] at h
    have fin : ∀ ds bs, toPys ds = some bs → Dp K F w (.list bs) → (if SeqAt.shaped a = true ∧ SeqAt.shaped (.list bs) = true then some (bs.any fun z => PyData.eqv z a) else none) = some c → ∃ a' bs, some a = some a' ∧ Dp K F w (.list bs) ∧ SeqAt.shaped a' = true ∧ SeqAt.shaped (.list bs) = true ∧ c = bs.any fun z => PyData.eqv z a' := fun ds bs _ hd h => by
      split at h
      · rename_i hc
        cases h
        exact ⟨a, bs, rfl, hd, hc.1, hc.2, rfl⟩
      · cases h
    cases y with
    | lst ds =>
      simp only at h
      cases q : toPys ds with
      | none => rw [q] at h; cases h
      | some bs =>
        rw [q] at h
        exact fin ds bs q (rp_dp (.lst ds) w (.list bs) rw (by simp only [toPy]; rw [q]; rfl)) h
    | fix _ => cases h
    | non => cases h
    | bl _ => cases h
    | int _ => cases h
    | str _ => cases h
    | ty _ => cases h
    | tup _ => cases h
    | dicK _ _ => cases h
    | dicT _ _ => cases h
    | dicN _ _ => cases h
    | exn _ => cases h
    | inst _ _ => cases h
    | _ => cases h
theorem imp_in {K : PySem.W.Frag} : Imp2 K dIn (rInD K) := fun F H v w x y d Q ex rv rw e o => by
  unfold dIn at e
  cases q : inD x y with
  | none => rw [q] at e; cases e
  | some c =>
    rw [q] at e
    cases e
    obtain ⟨a, bs, h1, h2, h3, h4, rfl⟩ := inD_of rw q
    exact ⟨a, bs, dp_same ex (rp_dp _ _ _ rv h1), dp_same ex h2, h3, h4, o.here ex (.bl _)⟩
theorem imp_notIn {K : PySem.W.Frag} : Imp2 K dNotIn (rNotInD K) := fun F H v w x y d Q ex rv rw e o => by
  unfold dNotIn at e
  cases q : inD x y with
  | none => rw [q] at e; cases e
  | some c =>
    rw [q] at e
    cases e
    obtain ⟨a, bs, h1, h2, h3, h4, rfl⟩ := inD_of rw q
    exact ⟨a, bs, dp_same ex (rp_dp _ _ _ rv h1), dp_same ex h2, h3, h4, o.here ex (.bl _)⟩
def dIx : D → D → Option D
  | .lst ds, .int i => atI ds i
  | .fix ds, .int i => atI ds i
  | .tup ds, .int i => atI ds i
  | .str z, .int i => if z.length ≤ sizeLine then (atI z.cps.toList i).map fun c => .str ⟨#[c]⟩ else none
  | _, _ => none
theorem imp_ix {K : PySem.W.Frag} : Imp2 K dIx (rIx K) := fun F H v w x y d Q ex rv rw e o => by
  unfold dIx at e
  split at e
  · cases rw
    cases rv with
    | lst hf ra => obtain ⟨u, hu, ru⟩ := atI_rp ra e; exact .inl ⟨_, _, _, u, rfl, rfl, SqL.of (ex _ _ hf), hu, o.here ex ru⟩
  · cases rw
    cases rv with
    | fix hf ra => obtain ⟨u, hu, ru⟩ := atI_rp ra e; exact .inl ⟨_, _, _, u, rfl, rfl, ex.seq hf, hu, o.here ex ru⟩
  · cases rw
    cases rv with
    | tup hf ra => obtain ⟨u, hu, ru⟩ := atI_rp ra e; exact .inr (.inl ⟨_, _, _, u, rfl, rfl, SqT.of (ex _ _ hf), hu, o.here ex ru⟩)
  · split at e
    · rename_i hz
      cases rw; cases rv
      rename_i z i
      cases q : atI z.cps.toList i with
      | none => rw [q] at e; cases e
      | some c => rw [q] at e; cases e; exact .inr (.inr ⟨z, i, c, rfl, rfl, hz, q, o.here ex (.str _)⟩)
    · cases e
  · cases e
def dLen : List D → Option D
  | [.lst ds] => some (.int (ds.length : Nat))
  | [.fix ds] => some (.int (ds.length : Nat))
  | [.tup ds] => some (.int (ds.length : Nat))
  | [.str z] => if z.length ≤ sizeLine then some (.int (z.length : Nat)) else none
  | _ => none
def rLenAll (K : PySem.W.Frag) : List V → Hp → VK → Prop := fun xs H Q => (∃ p ys, xs = [.ref p] ∧ (SqL K H p ys ∨ SqT K H p ys) ∧ Q (.int ys.length) H) ∨ (∃ z, xs = [.str z] ∧ z.length ≤ sizeLine ∧ Q (.int z.length) H)
theorem call_lenAll {X : Cx} : CallR X (.builtin "len") (rLenAll X.K) := call_len_seq.or call_len_str
theorem imp_len {K : PySem.W.Frag} : ImpL K dLen (rLenAll K) := fun F H vs ds d Q ex ra e o => by
  unfold dLen at e
  split at e
  · cases e
    cases ra with
    | cons a b => cases b; cases a with | lst hf r => exact .inl ⟨_, _, rfl, .inl (SqL.of (ex _ _ hf)), o.here ex (by rw [← r.length]; exact .int _)⟩
  · cases e
    cases ra with
    | cons a b => cases b; cases a with | fix hf r => exact .inl ⟨_, _, rfl, .inl (ex.seq hf), o.here ex (by rw [← r.length]; exact .int _)⟩
  · cases e
    cases ra with
    | cons a b => cases b; cases a with | tup hf r => exact .inl ⟨_, _, rfl, .inr (SqT.of (ex _ _ hf)), o.here ex (by rw [← r.length]; exact .int _)⟩
  · split at e
    · cases e
      cases ra with
      | cons a b => cases b; cases a; exact .inr ⟨_, rfl, by assumption, o.here ex (.int _)⟩
    · cases e
  · cases e
def dAbs : List D → Option D
  | [.int i] => some (.int (if i < 0 then -i else i))
  | _ => none
def dMax2 : List D → Option D
  | [.int i, .int j] => some (.int (if j > i then j else i))
  | _ => none
theorem imp_max2 {K : PySem.W.Frag} : ImpL K dMax2 (fun xs H Q => ∃ i j, xs = [.int i, .int j] ∧ Q (.int (if j > i then j else i)) H) := fun F H vs ds d Q ex ra e o => by
  unfold dMax2 at e
  split at e
  · cases e
    cases ra with
    | cons a b => cases b with | cons b c => cases c; cases a; cases b; exact ⟨_, _, rfl, o.here ex (.int _)⟩
  · cases e
def dMin2 : List D → Option D
  | [.int i, .int j] => some (.int (if j < i then j else i))
  | _ => none
theorem imp_min2 {K : PySem.W.Frag} : ImpL K dMin2 (fun xs H Q => ∃ i j, xs = [.int i, .int j] ∧ Q (.int (if j < i then j else i)) H) := fun F H vs ds d Q ex ra e o => by
  unfold dMin2 at e
  split at e
  · cases e
    cases ra with
    | cons a b => cases b with | cons b c => cases c; cases a; cases b; exact ⟨_, _, rfl, o.here ex (.int _)⟩
  · cases e
def dInt : List D → Option D
  | [.int i] => some (.int i)
  | [.bl b] => some (.int (if b then 1 else 0))
  | _ => none
theorem imp_int {K : PySem.W.Frag} : ImpL K dInt (fun xs H Q => (∃ i, xs = [.int i] ∧ Q (.int i) H) ∨ ∃ k, xs = [.bl k] ∧ Q (.int (if k then 1 else 0)) H) := fun F H vs ds d Q ex ra e o => by
  unfold dInt at e
  split at e
  · cases e
    cases ra with
    | cons a b => cases b; cases a; exact .inl ⟨_, rfl, o.here ex (.int _)⟩
  · cases e
    cases ra with
    | cons a b => cases b; cases a; exact .inr ⟨_, rfl, o.here ex (.int _)⟩
  · cases e
/-- list(x), tuple(x) -/
def dList : List D → Option D
  | [.lst ds] => some (.lst ds)
  | [.fix ds] => some (.lst ds)
  | [.tup ds] => some (.lst ds)
  | _ => none
theorem imp_list {K : PySem.W.Frag} : ImpLN K dList (fun xs H Q => ∃ p ys, xs = [.ref p] ∧ (SqL K H p ys ∨ SqT K H p ys) ∧ ∀ l, H l = none → Q (.ref l) (upd H l (.lst ys))) := fun F H vs ds d Q ex ra e o => by
  unfold dList at e
  split at e
  · cases e
    cases ra with
    | cons a b => cases b; cases a with | lst hf r => exact ⟨_, _, rfl, .inl (SqL.of (ex _ _ hf)), fun l hl => o.new ex hl (.lst r)⟩
  · cases e
    cases ra with
    | cons a b => cases b; cases a with | fix hf r => exact ⟨_, _, rfl, .inl (ex.seq hf), fun l hl => o.new ex hl (.lst r)⟩
  · cases e
    cases ra with
    | cons a b => cases b; cases a with | tup hf r => exact ⟨_, _, rfl, .inr (SqT.of (ex _ _ hf)), fun l hl => o.new ex hl (.lst r)⟩
  · cases e
def dTuple : List D → Option D
  | [.lst ds] => some (.tup ds)
  | [.fix ds] => some (.tup ds)
  | [.tup ds] => some (.tup ds)
  | _ => none
theorem imp_tuple {K : PySem.W.Frag} : ImpL K dTuple (fun xs H Q => ∃ p ys, xs = [.ref p] ∧ ((SqL K H p ys ∧ ∀ l, H l = none → Q (.ref l) (upd H l (.tup ys))) ∨ (SqT K H p ys ∧ Q (.ref p) H))) := fun F H vs ds d Q ex ra e o => by
  unfold dTuple at e
  split at e
  · cases e
    cases ra with
    | cons a b =>
      cases b
      cases a with
      | lst hf r => exact ⟨_, _, rfl, .inl ⟨SqL.of (ex _ _ hf), fun l hl => o.new ex hl (.tup upd_same (r.mono (Gr.new (o := .tup _) ex hl).ex))⟩⟩
  · cases e
    cases ra with
    | cons a b =>
      cases b
      cases a with
      | fix hf r => exact ⟨_, _, rfl, .inl ⟨ex.seq hf, fun l hl => o.new ex hl (.tup upd_same (r.mono (Gr.new (o := .tup _) ex hl).ex))⟩⟩
  · cases e
    cases ra with
    | cons a b => cases b; cases a with | tup hf r => exact ⟨_, _, rfl, .inr ⟨SqT.of (ex _ _ hf), o.here ex (.tup hf r)⟩⟩
  · cases e
/-- isinstance(x, T) -/
def tyName : D → Option String
  | .non => some "NoneType"
  | .bl _ => some "bool"
  | .int _ => some "int"
  | .str _ => some "str"
  | .tup _ => some "tuple"
  | .lst _ => some "list"
  | .dicK z _ => if z = true then none else some "dict"
  | .dicT z _ => if z = true then none else some "dict"
  | _ => none
def isTy (a b : String) : Bool := a == b || (a == "bool" && b == "int")
def tyKnown (b : String) : Bool := b == "int" || b == "bool" || b == "str" || b == "list" || b == "tuple" || b == "dict"
def dIsi : List D → Option D
  | [x, .ty n] => if tyKnown n = true then (tyName x).map fun a => .bl (isTy a n) else none
  | _ => none
theorem kit_known : ∀ a ∈ ["NoneType", "bool", "int", "str", "tuple", "list", "dict"], ∀ b ∈ ["int", "bool", "str", "list", "tuple", "dict"], kitB a b = some (isTy a b) := by decide +kernel
theorem tyKnown_mem {b : String} (h : tyKnown b = true) : b ∈ ["int", "bool", "str", "list", "tuple", "dict"] := by
  unfold tyKnown at h
  simp only [Bool.or_eq_true, beq_iff_eq] at h
  simp only [List.mem_cons, List.not_mem_nil, or_false]
  rcases h with ((((h | h) | h) | h) | h) | h <;> simp [h]
theorem tyName_of {K : PySem.W.Frag} {F H : Hp} {v : V} {x : D} {a : String} (ex : Same F H) (r : Rp K F v x) (h : tyName x = some a) : TyX K H v (.type a) ∧ a ∈ ["NoneType", "bool", "int", "str", "tuple", "list", "dict"] := by
  cases r with
  | non => cases h; exact ⟨.base .non, by decide⟩
  | bl _ => cases h; exact ⟨.base (.bl _), by decide⟩
  | int _ => cases h; exact ⟨.base (.int _), by decide⟩
  | str _ => cases h; exact ⟨.base (.str _), by decide⟩
  | ty _ => cases h
  | fix _ _ => cases h
  | tup hf _ => cases h; exact ⟨.base (.tup (ex _ _ hf)), by decide⟩
  | lst hf _ => cases h; exact ⟨.base (.lst (ex _ _ hf)), by decide⟩
  | @dicK z _ _ _ _ hf _ _ =>
    cases z
    · cases h; exact ⟨.base (.dK (ex _ _ hf)), by decide⟩
    · cases h
  | @dicT z _ _ _ _ hf _ _ =>
    cases z
    · cases h; exact ⟨.base (.dT (ex _ _ hf)), by decide⟩
    · cases h
  | dicN _ _ _ _ => cases h
  | exn _ _ => cases h
  | inst _ _ _ _ => cases h
  | _ => cases h
theorem imp_isi {K : PySem.W.Frag} : ImpL K dIsi (rIsi K) := fun F H vs ds d Q ex ra e o => by
  unfold dIsi at e
  split at e
  · rename_i x n
    split at e
    · rename_i hk
      cases q : tyName x with
      | none => rw [q] at e; cases e
      | some a =>
        rw [q] at e
        cases e
        cases ra with
        | cons r1 r2 =>
          cases r2 with
          | cons r2 r3 =>
            cases r3; cases r2
            obtain ⟨t1, t2⟩ := tyName_of ex r1 q
            exact ⟨_, _, _, _, _, rfl, .ty n, t1, kit_ty (kit_known a t2 n (tyKnown_mem hk)), o.here ex (.bl _)⟩
    · cases e
  · cases e
section
variable {X : Cx} {E : EW}
theorem xe_ty {x : Str} {n : String} {pos : Pos} (hg : Gl X x) (hm : X.mg x = none) (hv : bootBuiltins x = some (.type n)) (hn : x ≠ "__name__" := by decide) (hd : (x == ("__debug__" : Str)) = false := by decide) : PE X (.Name x pos) (lE X.K E (xC (.ty n))) :=
  xe_const (pe_bltn (v := .ty n) hg hm hv rfl hn hd) fun _ => .ty n
end
end G


namespace G
open PySem PySem.Spec PyProof.Rows L2

section
variable {X : Cx} {E : EW} {a b : Expr} {pos : Pos} {ta tb : XV}
def dBl (f : D → D → Option D) (x y : D) : Option Bool := match f x y with
  | some (.bl b) => some b
  | _ => none
theorem dBl_of {f : D → D → Option D} {x y : D} {b : Bool} (h : dBl f x y = some b) : f x y = some (.bl b) := by
  unfold dBl at h
  split at h
  · cases h; assumption
  · cases h
theorem same_frz {F H : Hp} {p : Addr} {o : HO} (e : Same F H) (hh : H p = some o) : Same (upd F p o) H := fun b u q => by
  by_cases hb : b = p
  · subst hb; rw [upd_same] at q; rw [hh]; exact q
  · rw [upd_ne hb] at q; exact e b u q
theorem out_peek {K : PySem.W.Frag} {F H : Hp} {p : Addr} {o : HO} {c : Bool} {Q : VK} (e : Same F H) (hf : F p = none) (hh : H p = some o) (h : ∀ F' H', Gr F H F' H' → Q (.bl c) H') : OutV K (upd F p o) H (.bl c) Q := fun v F' H' g rv => by
  cases rv
  exact h F H' ⟨Same.refl F, g.exH, fun b u q => g.exH b u (e b u q), fun _ _ _ _ h2 => h2⟩
def xCmpO (f : D → D → Option D) (ta : XV) (i : Nat) : XV := fun ρ => (ta ρ).bind fun x ρ1 => match rdD i ρ1 with
  | some y => match dBl f x y with
    | some b => .ok (.bl b) ρ1
    | none => .bad
  | none => .bad
/-- read for a while as if it were frozen -/
theorem ra_peek {K : PySem.W.Frag} {F H : Hp} {v : V} {d : D} (e : Same F H) (h : Ra K F H v d) : ∃ F2, Same F F2 ∧ Same F2 H ∧ Rp K F2 v d ∧ ∀ (c : Bool) (Q : VK), (∀ F' H', Gr F H F' H' → Q (.bl c) H') → OutV K F2 H (.bl c) Q := by
  cases h with
  | val r n => exact ⟨F, Same.refl F, e, r, fun c Q h v F' H' g rv => by cases rv; exact h F' H' g⟩
  | @own p o _ h1 h2 h3 => exact ⟨upd F p o, fun b' u q => by rw [upd_ne (ne_of_none q h1)]; exact q, same_frz e h2, ro_rp h1 h3, fun c Q h => out_peek e h1 h2 h⟩
theorem xe_cmpO {op : CmpOp} {f : D → D → Option D} {r : R2} {i : Nat} {x : Str} {xp : Pos} (ho : OpR X (compareOp op) r) (hi : Imp2 X.K f r) (ha : PE X a (lE X.K E ta)) (hb : PE X (.Name x xp) (tVar i)) (hm : behindInMarks op (.Name x xp) = false) : PE X (.Compare a [op] [.Name x xp] pos) (lE X.K E (xCmpO f ta i)) := by
  refine pe_imp (pe_cmpR ho ha hb hm) fun σ H Q h => ?_
  obtain ⟨F, ρ, r, p⟩ := h
  refine ⟨F, ρ, r, (Pend.bind r p).mono fun d ρ1 F1 H1 g1 q v rv => ?_⟩
  unfold Pend at q
  cases e0 : rdD i ρ1 with
  | none => simp only [e0] at q
  | some y =>
    simp only [e0] at q
    cases e1 : dBl f d y with
    | none => simp only [e1] at q
    | some c =>
      simp only [e1] at q
      obtain ⟨w, h1, h2⟩ := g1.rel.rd e0
      obtain ⟨F2, s1, s2, rw, k⟩ := ra_peek g1.rel.ex h2
      exact ⟨w, h1, hi F2 H1 v w d y _ Q s2 (rv.mono s1) rw (dBl_of e1) (k c Q fun F' H' g => q F' H' (g.go g1.rel) _ (.bl c))⟩
def xCmpOL (f : D → D → Option D) (i : Nat) (tb : XV) : XV := fun ρ => match rdD i ρ with
  | none => .bad
  | some _ => (tb ρ).bind fun y ρ1 => match rdD i ρ1 with
    | some x => match dBl f x y with
      | some b => .ok (.bl b) ρ1
      | none => .bad
    | none => .bad
def xCallT (g : DF) (tn : XV) (t : XA) : XV := fun ρ => (tn ρ).bind fun d0 ρ1 => (t ρ1).bind fun ds ρ2 => match g (d0 :: ds) with
  | .ok d [_] => .ok d ρ2
  | .exc c [_] => .exc c ρ2
  | _ => .bad
end
section
variable {X : Cx} {cv : String → Value} {pos : Pos} {W : WX}
theorem Pend.okE {K : PySem.W.Frag} {E : EW} {σ : L2.St} {F H : Hp} {ρ ρ' : Rho} {α : Type} {a : α} {t : Rho → Res α} {Q : α → Rho → Hp → Hp → Prop} (e : t ρ = .ok a ρ') (h : ∀ F' H', Go K ρ σ F H ρ' σ F' H' → Q a ρ' F' H') : Pend K E t ρ σ F H Q := by
  unfold Pend
  rw [e]
  exact h
end
section
variable {X : Cx} {E : EW} {pos : Pos}
def iSeq (K : PySem.W.Frag) (tl : TE) : TI := fun σ H R => tl σ H fun x H1 => (∃ a, x = .ref a ∧ (∃ xs, SqL K H1 a xs) ∧ R (Itl K a) H1) ∨ ∃ a, x = .ref a ∧ (∃ xs, SqT K H1 a xs) ∧ R (Itt K a) H1
theorem pi_seq {tg l : Expr} {tl : TE} (hl : PE X l tl) : PI X tg l (iSeq X.K tl) := by
  refine ⟨fun pins s σ H R I h => ?_⟩
  refine thn (hl.run pins s σ H _ I h) fun v s1 ⟨x, H1, I1, r1, q1⟩ => ?_
  rcases q1 with ⟨a, e, ⟨xs, hq⟩, q⟩ | ⟨a, e, ⟨xs, hq⟩, q⟩
  · subst e
    cases r1
    obtain ⟨its, rv, p, hz⟩ := I1.list hq
    refine wpAny_pyIter_list p.isList ?_
    refine ⟨s1.heap.objs.size, [s1.heap.objs.size], _, _, H1, rfl, I1.kept (t' := s1.toks) fun b o e => Heap.get?_push_of_some _ e, turn_list a _, ⟨_, Heap.get?_push_size _ rfl, rfl, rfl⟩, fun b hb => ?_, q⟩
    have e : b = s1.heap.objs.size := by simpa using hb
    subst e
    exact I1.fpOk (Nat.le_refl _) (I1.hok.fresh (Nat.le_refl _))
  · subst e
    cases r1
    obtain ⟨its, rv, p, hz⟩ := I1.tuple hq
    refine wpAny_pyIter_tuple (show s1.heap.IsTuple a its.toArray from p) ?_
    refine ⟨s1.heap.objs.size, [s1.heap.objs.size], _, _, H1, rfl, I1.kept (t' := s1.toks) fun b o e => Heap.get?_push_of_some _ e, turn_tuple a _, ⟨_, Heap.get?_push_size _ rfl, rfl, rfl⟩, fun b hb => ?_, q⟩
    have e : b = s1.heap.objs.size := by simpa using hb
    subst e
    exact I1.fpOk (Nat.le_refl _) (I1.hok.fresh (Nat.le_refl _))
def xIt (t : XV) : XA := fun ρ => (t ρ).bind (lift dItems)
theorem xi_seq {tg e : Expr} {t : XV} (h : PE X e (lE X.K E t)) : PI X tg e (lI X.K E (xIt t)) := pi_imp (pi_seq h) fun σ H R h => by
  obtain ⟨F, ρ, r, p⟩ := h
  refine ⟨F, ρ, r, (Pend.bind r p).mono fun x ρ1 F1 H1 g1 q v rv => ?_⟩
  obtain ⟨d, e, q⟩ := q.lift
  cases rv with
  | lst hf ra => cases e; exact .inl ⟨_, rfl, ⟨_, SqL.of (g1.rel.ex _ _ hf)⟩, q F1 H1 (Go.refl g1.rel) _ (iters_list (fun ρ2 σ2 F2 H2 g => SqL.of (g.rel.ex _ _ (g.ex _ _ hf))) ra)⟩
  | fix hf ra => cases e; exact .inl ⟨_, rfl, ⟨_, g1.rel.ex.seq hf⟩, q F1 H1 (Go.refl g1.rel) _ (iters_list (fun ρ2 σ2 F2 H2 g => g.rel.ex.seq (g.ex.seq hf)) ra)⟩
  | tup hf ra => cases e; exact .inr ⟨_, rfl, ⟨_, SqT.of (g1.rel.ex _ _ hf)⟩, q F1 H1 (Go.refl g1.rel) _ (iters_tup hf ra)⟩
  | non => cases e
  | bl _ => cases e
  | int _ => cases e
  | str _ => cases e
  | ty _ => cases e
  | dicK _ _ _ => cases e
  | dicT _ _ _ => cases e
  | dicN _ _ _ _ => cases e
  | exn _ _ => cases e
  | inst _ _ _ _ => cases e
  | _ => cases e
end
section
variable {K : PySem.W.Frag} {E : EW} {σ σ' : L2.St} {F H F' H' : Hp} {ρ ρ' : Rho} {i : Nat} {d : D}
theorem own_lock {p : Addr} (h : Own (ρ.set i (.rd d)) σ p) : Own ρ σ p ∧ True := by
  obtain ⟨j, e, h1, h2⟩ := h
  rcases get_set h1 with ⟨_, z⟩ | ⟨_, h1⟩
  · cases z
  · exact ⟨⟨j, e, h1, h2⟩, trivial⟩
theorem lock_not {p : Addr} (r : Rel K F H ρ σ) (hi : ρ[i]? = some (.own d)) (hs : σ[i]? = some (some (.ref p))) : ¬ Own (ρ.set i (.rd d)) σ p := by
  rintro ⟨j, e, h1, h2⟩
  rcases get_set h1 with ⟨_, z⟩ | ⟨hj, h1⟩
  · cases z
  · exact hj (r.dis i j d e p hi h1 hs h2)
theorem Rel.lock (r : Rel K F H ρ σ) (hi : ρ[i]? = some (.own d)) : Rel K F H (ρ.set i (.rd d)) σ := by
  refine ⟨r.ex, by rw [List.length_set]; exact r.len, fun j s o h1 h2 => ?_, fun j k d1 d2 p h1 h2 h3 h4 => ?_, fun j e p h1 h2 => ?_⟩
  · rcases get_set h1 with ⟨e, z⟩ | ⟨_, h1⟩
    · subst e z
      have := r.at' i _ _ hi h2
      cases this with
      | own a b c => exact .rd (.own a b c)
    · exact r.at' j s o h1 h2
  · rcases get_set h1 with ⟨_, z⟩ | ⟨_, h1⟩
    · cases z
    · rcases get_set h2 with ⟨_, z⟩ | ⟨_, h2⟩
      · cases z
      · exact r.dis j k d1 d2 p h1 h2 h3 h4
  · rcases get_set h1 with ⟨ej, _⟩ | ⟨_, h1⟩
    · subst ej
      exact lock_not r hi h2
    · exact fun z => r.rdis j e p h1 h2 (own_lock z).1
def unl (i : Nat) (ρ : Rho) : Rho := match ρ[i]? with
  | some (.rd d) => ρ.set i (.own d)
  | _ => ρ
theorem Go.unlock (h0 : i ≠ 0) (r : Rel K F H ρ σ) (hi : ρ[i]? = some (.own d)) (g : Go K (ρ.set i (.rd d)) σ F H ρ' σ' F' H') : Go K ρ σ F H (unl i ρ') σ' F' H' := by
  have l0 : (ρ.set i (Slot.rd d))[0]? = ρ[0]? := List.getElem?_set_ne h0
  have rdo : ∀ (j : Nat) (e : D), (ρ.set i (Slot.rd d))[j]? = some (.rd e) → j ≠ i → ρ[j]? = some (.rd e) := fun j e h hj => by
    rcases get_set h with ⟨z, _⟩ | ⟨_, h⟩
    · exact absurd z.symm hj
    · exact h
  obtain ⟨p, o, s1, f1, h1, ro⟩ := r.own hi
  have np := lock_not r hi s1
  have ownb : ∀ q, Own ρ' σ' q → Own ρ σ q ∨ H q = none := fun q h => by
    rcases g.own q h with z | z
    · exact .inl (own_lock z).1
    · exact .inr z
  have keep : ∀ a o, H a = some o → F a = none → ¬ Own ρ σ a → H' a = some o ∧ (NTup o → F' a = none) := fun a o e1 e2 e3 => g.keep a o e1 e2 fun z => e3 (own_lock z).1
  unfold unl
  split
  · rename_i d' e
    obtain ⟨e1, e2⟩ := g.rdb i d' e
    have hl : i < ρ.length := by
      cases Nat.lt_or_ge i ρ.length with
      | inl z => exact z
      | inr z => rw [List.getElem?_eq_none z] at hi; cases hi
    rw [List.getElem?_set_self hl] at e1
    cases e1
    obtain ⟨k1, k2'⟩ := g.keep p o h1 f1 np
    have k2 := k2' ro.nt
    have sp : σ'[i]? = some (some (.ref p)) := e2.trans s1
    have nop : ∀ (j : Nat) (e : D), ρ'[j]? = some (.own e) → σ'[j]? = some (some (.ref p)) → False := fun j e y1 y2 => by
      rcases g.own p ⟨j, e, y1, y2⟩ with z | z
      · exact np z
      · rw [h1] at z; cases z
    refine ⟨⟨g.rel.ex, by rw [List.length_set]; exact g.rel.len, fun j s v y1 y2 => ?_, fun j k d1 d2 q y1 y2 y3 y4 => ?_, fun j e q y1 y2 y3 => ?_⟩, g.ex, keep, fun q h => ?_, g.low, fun e h => ?_, fun j e h => ?_⟩
    · rcases get_set y1 with ⟨ej, z⟩ | ⟨_, y1⟩
      · subst ej z
        rw [sp] at y2
        cases y2
        exact .own k2 k1 (ro.mono g.ex)
      · exact g.rel.at' j s v y1 y2
    · rcases get_set y1 with ⟨ej, _⟩ | ⟨hj, y1⟩
      · rcases get_set y2 with ⟨ek, _⟩ | ⟨hk, y2⟩
        · exact ej.symm.trans ek
        · subst ej
          rw [sp] at y3; cases y3
          exact (nop k d2 y2 y4).elim
      · rcases get_set y2 with ⟨ek, _⟩ | ⟨hk, y2⟩
        · subst ek
          rw [sp] at y4; cases y4
          exact (nop j d1 y1 y3).elim
        · exact g.rel.dis j k d1 d2 q y1 y2 y3 y4
    · rcases get_set y1 with ⟨_, z⟩ | ⟨hj, y1⟩
      · cases z
      · obtain ⟨k, e', z1, z2⟩ := y3
        rcases get_set z1 with ⟨ek, _⟩ | ⟨_, z1⟩
        · subst ek
          rw [sp] at z2; cases z2
          obtain ⟨w1, w2⟩ := g.rdb j e y1
          rw [w2] at y2
          exact r.rdis j e p (rdo j e w1 (fun z => hj z.symm)) y2 ⟨_, d, hi, s1⟩
        · exact g.rel.rdis j e q y1 y2 ⟨k, e', z1, z2⟩
    · obtain ⟨j, e', z1, z2⟩ := h
      rcases get_set z1 with ⟨ek, _⟩ | ⟨_, z1⟩
      · subst ek
        rw [sp] at z2; cases z2
        exact .inl ⟨_, d, hi, s1⟩
      · exact ownb q ⟨j, e', z1, z2⟩
    · obtain ⟨e', h'⟩ := g.lowO e (l0.trans h)
      exact ⟨e', by rw [List.getElem?_set_ne h0]; exact h'⟩
    · rcases get_set h with ⟨_, z⟩ | ⟨hj, h⟩
      · cases z
      · obtain ⟨w1, w2⟩ := g.rdb j e h
        exact ⟨rdo j e w1 (fun z => hj z.symm), w2⟩
  · rename_i nr
    refine ⟨g.rel, g.ex, keep, ownb, g.low, fun e h => g.lowO e (l0.trans h), fun j e h => ?_⟩
    obtain ⟨w1, w2⟩ := g.rdb j e h
    exact ⟨rdo j e w1 (fun z => nr e (by rw [← z]; exact h)), w2⟩
theorem unl_own (h0 : i ≠ 0) (r : Rel K F H ρ σ) (hi : ρ[i]? = some (.own d)) (g : Go K (ρ.set i (.rd d)) σ F H ρ' σ' F' H') {p : Addr} (hn : ¬ Own ρ' σ' p) (hw : Own (ρ.set i (.rd d)) σ p ∨ H p = none) : ¬ Own (unl i ρ') σ' p := by
  unfold unl
  split
  · rename_i d' e
    rintro ⟨j, e', z1, z2⟩
    rcases get_set z1 with ⟨ek, _⟩ | ⟨_, z1⟩
    · subst ek
      obtain ⟨_, e2⟩ := g.rdb i d' e
      rw [e2] at z2
      rcases hw with hw | hw
      · exact lock_not r hi z2 hw
      · obtain ⟨q, o, s1, _, h1, _⟩ := r.own hi
        rw [s1] at z2; cases z2
        rw [hw] at h1; cases h1
    · exact hn ⟨j, e', z1, z2⟩
  · exact hn
def Res.unl {α : Type} (i : Nat) : Res α → Res α
  | .ok a ρ => .ok a (G.unl i ρ)
  | .exc c ρ => .exc c (G.unl i ρ)
  | .bad => .bad
def Fl.unl (i : Nat) : Fl → Fl
  | .nx ρ => .nx (G.unl i ρ)
  | .ret d ρ => .ret d (G.unl i ρ)
  | .brk ρ => .brk (G.unl i ρ)
  | .cnt ρ => .cnt (G.unl i ρ)
  | .exc c ρ => .exc c (G.unl i ρ)
  | .bad => .bad
def lockV {α : Type} (i : Nat) (t : Rho → Res α) : Rho → Res α := fun ρ => match ownD i ρ with
  | some d => (t (ρ.set i (.rd d))).unl i
  | none => .bad
def lockS (i : Nat) (t : XS) : XS := fun ρ => match ownD i ρ with
  | some d => (t (ρ.set i (.rd d))).unl i
  | none => .bad
end
section
variable {X : Cx} {E : EW} {fr : Bool} {pos : Pos}
theorem xs_lock (i : Nat) {s : Stmt} {t : XS} (h : PS X s (lS X.K E fr t)) (h0 : i ≠ 0 := by decide) : PS X s (lS X.K E fr (lockS i t)) := ps_imp h fun C σ H h => by
  obtain ⟨F, ρ, r, p⟩ := h
  unfold PendS lockS at p
  cases e0 : ownD i ρ with
  | none => simp only [e0] at p
  | some d =>
    simp only [e0] at p
    have hi := ownD_of e0
    refine ⟨F, _, r.lock hi, ?_⟩
    unfold PendS
    cases e1 : t (ρ.set i (.rd d)) with
    | bad => simp only [e1, Fl.unl] at p
    | nx ρ' => simp only [e1, Fl.unl] at p; exact fun σ' F' H' g => p σ' F' H' (g.unlock h0 r hi)
    | brk ρ' => simp only [e1, Fl.unl] at p; exact fun σ' F' H' g => p σ' F' H' (g.unlock h0 r hi)
    | cnt ρ' => simp only [e1, Fl.unl] at p; exact fun σ' F' H' g => p σ' F' H' (g.unlock h0 r hi)
    | exc c ρ' => simp only [e1, Fl.unl] at p; exact fun σ' F' H' g => p σ' F' H' (g.unlock h0 r hi)
    | ret a ρ' =>
      simp only [e1, Fl.unl] at p
      refine ⟨fun ef v σ' F' H' g rv => p.1 ef v σ' F' H' (g.unlock h0 r hi) rv, fun ef q o σ' F' H' g h1 h2 h3 h4 h5 => p.2 ef q o σ' F' H' (g.unlock h0 r hi) h1 h2 h3 (unl_own h0 r hi g h4 h5) ?_⟩
      rcases h5 with z | z
      · exact .inl (own_lock z).1
      · exact .inr z
/-- walking what slot i lends -/
def xItO (i : Nat) : XA := fun ρ => match ρ[i]? with
  | some (.rd d) => lift dItems d ρ
  | _ => .bad
theorem xi_own {tg : Expr} {i : Nat} {x : Str} {xp : Pos} (ho : PE X (.Name x xp) (tVar i)) : PI X tg (.Name x xp) (lI X.K E (xItO i)) := pi_imp (pi_seq ho) fun σ H R h => by
  obtain ⟨F, ρ, r, p⟩ := h
  unfold Pend xItO at p
  split at p <;> rename_i e
  · split at e
    · rename_i ρ' d q
      have hd : rdD i ρ = some d := by unfold rdD; rw [q]
      obtain ⟨v, s1, ra⟩ := r.rd hd
      refine ⟨v, s1, ?_⟩
      unfold lift at e
      split at e
      · rename_i ds hds
        cases e
        cases ra with
        | val rv nf =>
          cases rv with
          | lst hf ra => cases hds; exact .inl ⟨_, rfl, ⟨_, SqL.of (r.ex _ _ hf)⟩, p F H (Go.refl r) _ (iters_list (fun ρ2 σ2 F2 H2 g => SqL.of (g.rel.ex _ _ (g.ex _ _ hf))) ra)⟩
          | fix hf ra => cases nf
          | tup hf ra => cases hds; exact .inr ⟨_, rfl, ⟨_, SqT.of (r.ex _ _ hf)⟩, p F H (Go.refl r) _ (iters_tup hf ra)⟩
          | non => cases hds
          | bl _ => cases hds
          | int _ => cases hds
          | str _ => cases hds
          | ty _ => cases hds
          | dicK _ _ _ => cases hds
          | dicT _ _ _ => cases hds
          | dicN _ _ _ _ => cases hds
          | exn _ _ => cases hds
          | inst _ _ _ _ => cases hds
          | _ => cases hds
        | own f1 h1 ro =>
          have nO := r.rdis i d _ q s1
          cases ro with
          | lst ra => cases hds; exact .inl ⟨_, rfl, ⟨_, SqL.of h1⟩, p F H (Go.refl r) _ (iters_list (fun ρ2 σ2 F2 H2 g => SqL.of (g.keep _ _ h1 f1 nO).1) ra)⟩
          | dicK _ _ => cases hds
          | dicT _ _ => cases hds
          | dicN _ _ => cases hds
          | ins _ _ _ => cases hds
          | _ => cases hds
      · cases e
    · cases e
  · split at e
    · unfold lift at e
      split at e <;> cases e
    · cases e
  · exact p.elim
end
theorem bt_len : bootBuiltins "len" = some (.builtin "len") := by decide +kernel
theorem bt_max : bootBuiltins "max" = some (.builtin "max") := by decide +kernel
theorem bt_min : bootBuiltins "min" = some (.builtin "min") := by decide +kernel
theorem bt_isinstance : bootBuiltins "isinstance" = some (.builtin "isinstance") := by decide +kernel
theorem bt_all : bootBuiltins "all" = some (.builtin "all") := by decide +kernel
theorem bt_int : bootBuiltins "int" = some (.type "int") := by decide +kernel
theorem bt_list : bootBuiltins "list" = some (.type "list") := by decide +kernel
theorem bt_tuple : bootBuiltins "tuple" = some (.type "tuple") := by decide +kernel
theorem bt_bool : bootBuiltins "bool" = some (.type "bool") := by decide +kernel
theorem hu65 {k : Nat} {A : Around} (r : Room k A) : A.units + 65 < cLine := by have := r.un; omega
theorem law_sp {K : PySem.W.Frag} {cv : String → Value} {g : DF} {H : Hp} {a : Addr} {ns : List Int} {E : XK} (hS : SqL K H a (ns.map V.int)) (h : g [.fix (ns.map D.int)] = .ok (.bl true) []) : spP K cv false [false] g [.ref a] H (fun v _ => v = .bl true) E := by
  refine ⟨H, [.fix (ns.map D.int)], Same.refl H, .val (.fix hS (RpAll.of_ints ns)) .nil, ?_⟩
  rw [h]
  exact ⟨fun _ v F' H' _ rv => by cases rv; rfl, fun z => by cases z⟩
theorem law_cx {P : Program} {w : World} {H : Hp} {s s' : Shared} {e : Value} (h : L2.CX P w [] H s (fun _ _ _ => False) e s') : False := by
  obtain ⟨_, _, _, _, _, _, _, _, _, _, _, _, z⟩ := h
  exact z
end G


namespace G
open PySem PySem.Spec PyProof.Rows L2

theorem atI_0 {α : Type} (a : α) (l : List α) : atI (a :: l) 0 = some a := atI_nat (j := 0) rfl
theorem atI_1 {α : Type} (a b : α) (l : List α) : atI (a :: b :: l) 1 = some b := atI_nat (j := 1) rfl
theorem atI_2 {α : Type} (a b c : α) (l : List α) : atI (a :: b :: c :: l) 2 = some c := atI_nat (j := 2) rfl
theorem atI_3 {α : Type} (a b c d : α) (l : List α) : atI (a :: b :: c :: d :: l) 3 = some d := atI_nat (j := 3) rfl
theorem len_sz1 {n : Nat} (h : n ≤ 100000) : n ≤ sizeLine := by rw [sizeLine_eq]; omega
theorem CMulA.l {i : Int} (j : Int) (h : -(2 ^ 64) < i ∧ i < 2 ^ 64) : CMulA i j := .inl (.inl h)
theorem CMulA.r {j : Int} (i : Int) (h : -(2 ^ 64) < j ∧ j < 2 ^ 64) : CMulA i j := .inl (.inr h)
theorem CMulA.w {i j : Int} (ha : i.natAbs < 2 ^ 10000) (hb : j.natAbs < 2 ^ 10000) : CMulA i j := .inr (wide_mul ha hb (by decide) (by decide) (by decide))
theorem CDivW.s {j : Int} (i : Int) (h : 0 < j ∧ j < 2 ^ 200) : CDivW i j := wide_div (b := 200) h.1 (by omega) (by decide) (by decide)
/-- data by number and pairs -/
theorem shaped_of {d : PyData} (h1 : d.canLay0 = true) (h2 : d.depth ≤ 64) : SeqAt.shaped d = true := by
  unfold SeqAt.shaped
  rw [h1, decide_eq_true h2]
  rfl
class Enc (α : Type) where
  enc : α → D
  py : α → PyData
  dp : Nat
  to : ∀ a, toPy (enc a) = some (py a)
  lay : ∀ a, (py a).canLay0 = true
  dep : ∀ a, (py a).depth ≤ dp
  eqv : ∀ a b, PyData.eqv (py a) (py b) = true ↔ a = b
instance : Enc Int where
  enc := D.int
  py := PyData.int
  dp := 0
  to := fun _ => rfl
  lay := fun _ => rfl
  dep := fun _ => Nat.le_refl _
  eqv := fun a b => by simp [PyData.eqv]
theorem toPys_map {α : Type} [Enc α] : ∀ l : List α, toPys (l.map Enc.enc) = some (l.map Enc.py)
  | [] => rfl
  | a :: l => by simp only [List.map_cons, toPys, Enc.to, toPys_map l]
theorem lay_map {α : Type} [Enc α] : ∀ l : List α, PyData.canLayAll0 (l.map Enc.py) = true
  | [] => rfl
  | a :: l => by simp only [List.map_cons, PyData.canLayAll0, Enc.lay, lay_map l, Bool.and_self]
theorem dep_map {α : Type} [Enc α] : ∀ l : List α, PyData.depthAll (l.map Enc.py) ≤ Enc.dp α
  | [] => Nat.zero_le _
  | a :: l => by
    have h1 := Enc.dep a
    have h2 := dep_map l
    simp only [List.map_cons, PyData.depthAll]
    omega
theorem eqv_map {α : Type} [Enc α] : ∀ l m : List α, PyData.eqvAll (l.map Enc.py) (m.map Enc.py) = true ↔ l = m
  | [], [] => by simp [PyData.eqvAll]
  | [], _ :: _ => by simp [PyData.eqvAll]
  | _ :: _, [] => by simp [PyData.eqvAll]
  | a :: l, b :: m => by simp only [List.map_cons, PyData.eqvAll, Bool.and_eq_true, Enc.eqv, eqv_map l m, List.cons.injEq]
instance {α : Type} [Enc α] : Enc (List α) where
  enc := fun l => .lst (l.map Enc.enc)
  py := fun l => .list (l.map Enc.py)
  dp := Enc.dp α + 1
  to := fun l => by simp only [toPy, toPys_map, Option.map_some]
  lay := fun l => by simp only [PyData.canLay0, lay_map]
  dep := fun l => by
    have := dep_map l
    simp only [PyData.depth]
    omega
  eqv := fun l m => by simp only [PyData.eqv, eqv_map]
instance {α β : Type} [Enc α] [Enc β] : Enc (α × β) where
  enc := fun p => .tup [Enc.enc p.1, Enc.enc p.2]
  py := fun p => .tuple [Enc.py p.1, Enc.py p.2]
  dp := max (Enc.dp α) (Enc.dp β) + 1
  to := fun p => by simp only [toPy, toPys, Enc.to, Option.map_some]
  lay := fun p => by simp only [PyData.canLay0, PyData.canLayAll0, Enc.lay, Bool.and_self]
  dep := fun p => by
    have h1 := Enc.dep p.1
    have h2 := Enc.dep p.2
    simp only [PyData.depth, PyData.depthAll]
    omega
  eqv := fun p q => by
    simp only [PyData.eqv, PyData.eqvAll, Bool.and_eq_true, Enc.eqv, and_true]
    exact Prod.ext_iff.symm
theorem eqD_enc {α : Type} [Enc α] (h : Enc.dp α ≤ 64) (a b : α) [Decidable (a = b)] : eqD (Enc.enc a) (Enc.enc b) = some (decide (a = b)) := by
  unfold eqD
  simp only [Enc.to]
  have s : ∀ x : α, SeqAt.shaped (Enc.py x) = true := fun x => shaped_of (Enc.lay x) (Nat.le_trans (Enc.dep x) h)
  rw [if_pos ⟨s a, s b⟩]
  congr 1
  by_cases e : a = b
  · rw [decide_eq_true e]; exact (Enc.eqv a b).mpr e
  · rw [decide_eq_false e]
    cases q : PyData.eqv (Enc.py a) (Enc.py b) with
    | true => exact absurd ((Enc.eqv a b).mp q) e
    | false => rfl
theorem inD_enc {α : Type} [Enc α] (h : Enc.dp α ≤ 63) (a : α) (l : List α) [Decidable (a ∈ l)] : inD (Enc.enc a) (.lst (l.map Enc.enc)) = some (decide (a ∈ l)) := by
  unfold inD
  simp only [Enc.to, toPys_map]
  rw [if_pos ⟨shaped_of (Enc.lay a) (Nat.le_trans (Enc.dep a) (by omega)), shaped_of (by simp only [PyData.canLay0, lay_map]) (by have := dep_map l; simp only [PyData.depth]; omega)⟩]
  congr 1
  rw [Bool.eq_iff_iff]
  simp only [List.any_eq_true, List.mem_map, decide_eq_true_eq]
  constructor
  · rintro ⟨_, ⟨b, hb, rfl⟩, e⟩
    rw [(Enc.eqv b a).mp e] at hb
    exact hb
  · exact fun hm => ⟨_, ⟨a, hm, rfl⟩, (Enc.eqv a a).mpr rfl⟩
abbrev cell (x y : Int) : D := .tup [.int x, .int y]
abbrev cellP (p : Int × Int) : D := .tup [.int p.1, .int p.2]
theorem eqD_int (a b : Int) : eqD (.int a) (.int b) = some (decide (a = b)) := eqD_enc (α := Int) (by decide) a b
theorem eqD_cell (a b c d : Int) : eqD (.tup [.int a, .int b]) (.tup [.int c, .int d]) = some (decide (a = c ∧ b = d)) := by
  rw [show (D.tup [.int a, .int b]) = Enc.enc (a, b) from rfl, show (D.tup [.int c, .int d]) = Enc.enc (c, d) from rfl, eqD_enc (by decide)]
  congr 1
  simp only [Prod.mk.injEq]
theorem eqD_bl (a b : Bool) : eqD (.bl a) (.bl b) = some (a == b) := by
  unfold eqD
  simp only [toPy]
  rw [if_pos ⟨shaped_of rfl (Nat.zero_le _), shaped_of rfl (Nat.zero_le _)⟩]
  rfl
theorem forRun_inv {g : XG} {body : XS} (I : Nat → Rho → Prop) : ∀ (ds : List D) (k : Nat) (ρ : Rho), I k ρ → (∀ i d ρ, ds[i]? = some d → I (k + i) ρ → ∃ ρ1, g d ρ = some ρ1 ∧ ∃ ρ2, (body ρ1 = .nx ρ2 ∨ body ρ1 = .cnt ρ2) ∧ I (k + i + 1) ρ2) →
    ∃ ρ', forRun g body ds ρ = .nx ρ' ∧ I (k + ds.length) ρ'
  | [], k, ρ, h, _ => ⟨ρ, rfl, h⟩
  | d :: ds, k, ρ, h, hs => by
    obtain ⟨ρ1, e1, ρ2, e2, h2⟩ := hs 0 d ρ rfl h
    obtain ⟨ρ', e3, h3⟩ := forRun_inv I ds (k + 1) ρ2 h2 (fun i d' ρ3 hd hi => by
      have := hs (i + 1) d' ρ3 (by simpa using hd) (by rw [show k + (i + 1) = k + 1 + i by omega]; exact hi)
      rw [show k + (i + 1) + 1 = k + 1 + i + 1 by omega] at this
      exact this)
    refine ⟨ρ', ?_, by rw [List.length_cons, show k + (ds.length + 1) = k + 1 + ds.length by omega]; exact h3⟩
    unfold forRun
    simp only [e1]
    rcases e2 with e2 | e2 <;> simp only [e2] <;> exact e3
theorem rangeD_get {lo : Int} {n i : Nat} {d : D} (h : (rangeD lo n)[i]? = some d) : i < n ∧ d = .int (lo + (i : Nat)) := by
  unfold rangeD at h
  rw [List.getElem?_map] at h
  by_cases hi : i < n
  · rw [List.getElem?_range hi] at h
    cases h
    exact ⟨hi, rfl⟩
  · rw [List.getElem?_eq_none (by rw [List.length_range]; omega)] at h
    cases h
theorem rangeD_len (lo : Int) (n : Nat) : (rangeD lo n).length = n := by unfold rangeD; rw [List.length_map, List.length_range]
/-- a loop over a range, by an invariant -/
theorem for_range_inv {g : XG} {body : XS} {lo : Int} {n : Nat} (I : Nat → Rho → Prop) {ρ : Rho} (h0 : I 0 ρ) (hs : ∀ (i : Nat) ρ, i < n → I i ρ → ∃ ρ1, g (.int (lo + (i : Nat))) ρ = some ρ1 ∧ ∃ ρ2, (body ρ1 = .nx ρ2 ∨ body ρ1 = .cnt ρ2) ∧ I (i + 1) ρ2) : ∃ ρ', forRun g body (rangeD lo n) ρ = .nx ρ' ∧ I n ρ' := by
  obtain ⟨ρ', e, h⟩ := forRun_inv I (rangeD lo n) 0 ρ h0 (fun i d ρ hd hi => by
    obtain ⟨h1, rfl⟩ := rangeD_get hd
    rw [Nat.zero_add] at hi ⊢
    exact hs i ρ h1 hi)
  rw [rangeD_len, Nat.zero_add] at h
  exact ⟨ρ', e, h⟩
section
variable {α β : Type} (ρ ρ1 : Rho) (i : Nat) (ta tb : XV) (t u : XT) (p q : XS) (f : D → D → Option D) (g : D → Option D) (h : List D → Option D)
theorem zaa (a : α) (k : α → Rho → Res β) : (Res.ok a ρ).bind k = k a ρ := rfl
theorem zab (a : α) (k : α → Rho → Fl) : (Res.ok a ρ).fl k = k a ρ := rfl
theorem zac (c : String) (k : α → Rho → Res β) : (Res.exc c ρ).bind k = .exc c ρ := rfl
theorem zad (c : String) (k : α → Rho → Fl) : (Res.exc c ρ : Res α).fl k = .exc c ρ := rfl
theorem zae (a : α) (k : α → Rho → Res β) : (Res.ok a ρ).bindX k = k a ρ := rfl
theorem zaf : (Fl.nx ρ).seq p = p ρ := rfl
theorem zag (d : D) : (Fl.ret d ρ).seq p = .ret d ρ := rfl
theorem zah : (Fl.brk ρ).seq p = .brk ρ := rfl
theorem zai : (Fl.cnt ρ).seq p = .cnt ρ := rfl
theorem zaj (c : String) : (Fl.exc c ρ).seq p = .exc c ρ := rfl
def slotV (o : Option Slot) (ρ : Rho) : Res D := match o with
  | some (.val d) => .ok d ρ
  | _ => .bad
theorem zak : xVar i ρ = slotV ρ[i]? ρ := rfl
theorem zal (d : D) : slotV (some (.val d)) ρ = .ok d ρ := rfl
def slotT (i : Nat) (o : Option Slot) (ρ : Rho) : Res D := match o with
  | some (.own d) => .ok d (ρ.set i .emp)
  | _ => .bad
theorem zam : xTake i ρ = slotT i ρ[i]? ρ := rfl
theorem zan (d : D) : slotT i (some (.own d)) ρ = .ok d (ρ.set i .emp) := rfl
theorem zao (d : D) : xC d ρ = .ok d ρ := rfl
def liftO (o : Option β) (ρ : Rho) : Res β := match o with
  | some b => .ok b ρ
  | none => .bad
theorem zap (f : α → Option β) (a : α) : G.lift f a ρ = liftO (f a) ρ := rfl
theorem zaq (b : β) : liftO (some b) ρ = .ok b ρ := rfl
theorem zar : xOp1 g ta ρ = (ta ρ).bind (G.lift g) := rfl
def op2k (f : D → D → Option D) (tb : XV) : D → Rho → Res D := fun x ρ1 => (tb ρ1).bind (G.lift (f x))
theorem zas : xOp2 f ta tb ρ = (ta ρ).bind (op2k f tb) := rfl
theorem zat (x : D) : op2k f tb x ρ = (tb ρ).bind (G.lift (f x)) := rfl
theorem zau (a : XA) : xOpL h a ρ = (a ρ).bind (G.lift h) := rfl
theorem zav : xNil ρ = .ok [] ρ := rfl
def consk (tr : XA) : D → Rho → Res (List D) := fun x ρ1 => (tr ρ1).bind fun xs ρ2 => .ok (x :: xs) ρ2
def consk2 (x : D) : List D → Rho → Res (List D) := fun xs ρ2 => .ok (x :: xs) ρ2
theorem zaw (tr : XA) : xCons ta tr ρ = (ta ρ).bind (consk tr) := rfl
theorem zax (tr : XA) (x : D) : consk tr x ρ = (tr ρ).bind (consk2 x) := rfl
theorem zay (x : D) (xs : List D) : consk2 x xs ρ = .ok (x :: xs) ρ := rfl
def testk : D → Rho → Res Bool := fun x ρ1 => match x with
  | .bl b => .ok b ρ1
  | _ => .bad
theorem zaz : xTest ta ρ = (ta ρ).bind testk := rfl
theorem zaA (b : Bool) : testk (.bl b) ρ = .ok b ρ := rfl
def andk (u : XT) : Bool → Rho → Res Bool := fun b ρ1 => if b = true then u ρ1 else .ok false ρ1
def ork (u : XT) : Bool → Rho → Res Bool := fun b ρ1 => if b = true then .ok true ρ1 else u ρ1
def notk : Bool → Rho → Res Bool := fun b ρ1 => .ok (!b) ρ1
theorem zaB : xAnd t u ρ = (t ρ).bind (andk u) := rfl
theorem zaC : xOr t u ρ = (t ρ).bind (ork u) := rfl
theorem zaD : xNot t ρ = (t ρ).bind notk := rfl
theorem zaE : andk u true ρ = u ρ := rfl
theorem zaF : andk u false ρ = .ok false ρ := rfl
theorem zaG : ork u true ρ = .ok true ρ := rfl
theorem zaH : ork u false ρ = u ρ := rfl
theorem zaI (b : Bool) : notk b ρ = .ok (!b) ρ := rfl
def andVk (u : XV) : Bool → Rho → Res D := fun b ρ1 => if b = true then u ρ1 else .ok (.bl false) ρ1
def orVk (u : XV) : Bool → Rho → Res D := fun b ρ1 => if b = true then .ok (.bl true) ρ1 else u ρ1
def notVk : Bool → Rho → Res D := fun b ρ1 => .ok (.bl (!b)) ρ1
theorem zaJ : xAndV ta tb ρ = (xTest ta ρ).bind (andVk tb) := rfl
theorem zaK : xOrV ta tb ρ = (xTest ta ρ).bind (orVk tb) := rfl
theorem zaL : xNotV ta ρ = (xTest ta ρ).bind notVk := rfl
theorem zaM : andVk tb true ρ = tb ρ := rfl
theorem zaN : andVk tb false ρ = .ok (.bl false) ρ := rfl
theorem zaO : orVk tb true ρ = .ok (.bl true) ρ := rfl
theorem zaP : orVk tb false ρ = tb ρ := rfl
theorem zaQ (b : Bool) : notVk b ρ = .ok (.bl (!b)) ρ := rfl
def ifVk (a b : XV) : Bool → Rho → Res D := fun c ρ1 => if c = true then a ρ1 else b ρ1
theorem zaR : xIf t ta tb ρ = (t ρ).bind (ifVk ta tb) := rfl
theorem zaS : ifVk ta tb true ρ = ta ρ := rfl
theorem zaT : ifVk ta tb false ρ = tb ρ := rfl
theorem zaU : xNext ρ = .nx ρ := rfl
theorem zaV : xBrk ρ = .brk ρ := rfl
theorem zaW : xCnt ρ = .cnt ρ := rfl
theorem zaX : xSeq p q ρ = (p ρ).seq q := rfl
def dropk : D → Rho → Fl := fun _ ρ1 => .nx ρ1
theorem zaY : xDrop ta ρ = (ta ρ).fl dropk := rfl
theorem zaZ (d : D) : dropk d ρ = .nx ρ := rfl
def retk : D → Rho → Fl := fun d ρ1 => .ret d ρ1
theorem zba : xRet ta ρ = (ta ρ).fl retk := rfl
theorem zbb (d : D) : retk d ρ = .ret d ρ := rfl
def ifk (a b : XS) : Bool → Rho → Fl := fun c ρ1 => if c = true then a ρ1 else b ρ1
theorem zbc : xIfS t p q ρ = (t ρ).fl (ifk p q) := rfl
theorem zbd : ifk p q true ρ = p ρ := rfl
theorem zbe : ifk p q false ρ = q ρ := rfl
def asgO (o : Option Rho) : Fl := match o with
  | some ρ2 => .nx ρ2
  | none => .bad
def asgk (g : XG) : D → Rho → Fl := fun d ρ1 => asgO (g d ρ1)
theorem zbf (g : XG) : xAsg ta g ρ = (ta ρ).fl (asgk g) := rfl
theorem zbg (g : XG) (d : D) : asgk g d ρ = asgO (g d ρ) := rfl
theorem zbh : asgO (some ρ) = .nx ρ := rfl
theorem zbi (d : D) : gSet i d ρ = some (ρ.set i (.val d)) := rfl
theorem zbj (n : Nat) (gs : List D → Rho → Option Rho) (ds : List D) : gsTup n gs (.tup ds) ρ = if ds.length = n then gs ds ρ else none := rfl
theorem zbk (g : XG) (gs : List D → Rho → Option Rho) (d : D) (ds : List D) : gsCons g gs (d :: ds) ρ = (g d ρ).bind (gs ds) := rfl
theorem zbl : gsNil [] ρ = some ρ := rfl
def setOk (i : Nat) : D → Rho → Fl := fun d ρ1 => .nx (ρ1.set i (.own d))
theorem zbm : xSetO i ta ρ = (ta ρ).fl (setOk i) := rfl
theorem zbn (d : D) : setOk i d ρ = .nx (ρ.set i (.own d)) := rfl
def callk (g : DF) : List D → Rho → Res D := fun ds ρ1 => (g ds).res ρ1
theorem zbo (g : DF) (a : XA) : xCall g a ρ = (a ρ).bind (callk g) := rfl
theorem zbp (g : DF) (ds : List D) : callk g ds ρ = (g ds).res ρ := rfl
theorem zbq (d : D) (ps : List D) : (FR.ok d ps).res ρ = .ok d ρ := rfl
theorem zbr (c : String) (ps : List D) : (FR.exc c ps).res ρ = .exc c ρ := rfl
def ownO (o : Option Slot) : Option D := match o with
  | some (.own d) => some d
  | _ => none
theorem zbs : ownD i ρ = ownO ρ[i]? := rfl
theorem zbt (d : D) : ownO (some (.own d)) = some d := rfl
def callB2 (g : DF) (i : Nat) (ds : List D) (ρ1 : Rho) (o : Option D) : Res D := match o with
  | none => .bad
  | some d0 => (g (d0 :: ds)).resB i ρ1
def callB1 (g : DF) (i : Nat) : List D → Rho → Res D := fun ds ρ1 => callB2 g i ds ρ1 (ownD i ρ1)
def callB0 (g : DF) (i : Nat) (a : XA) (ρ : Rho) (o : Option D) : Res D := match o with
  | none => .bad
  | some _ => (a ρ).bind (callB1 g i)
theorem zbu (g : DF) (a : XA) : xCallB g i a ρ = callB0 g i a ρ (ownD i ρ) := by
  unfold xCallB callB0
  cases ownD i ρ <;> rfl
theorem zbv (g : DF) (a : XA) (d : D) : callB0 g i a ρ (some d) = (a ρ).bind (callB1 g i) := rfl
theorem zbw (g : DF) (ds : List D) : callB1 g i ds ρ = callB2 g i ds ρ (ownD i ρ) := rfl
theorem zbx (g : DF) (ds : List D) (d0 : D) : callB2 g i ds ρ (some d0) = (g (d0 :: ds)).resB i ρ := rfl
theorem zby (d e : D) : (FR.ok d [e]).resB i ρ = .ok d (ρ.set i (.own e)) := rfl
def callT2 (g : DF) (d0 : D) : List D → Rho → Res D := fun ds ρ2 => match g (d0 :: ds) with
  | .ok d [_] => .ok d ρ2
  | .exc c [_] => .exc c ρ2
  | _ => .bad
def callT1 (g : DF) (a : XA) : D → Rho → Res D := fun d0 ρ1 => (a ρ1).bind (callT2 g d0)
theorem zbz (g : DF) (a : XA) : xCallT g ta a ρ = (ta ρ).bind (callT1 g a) := rfl
theorem zbA (g : DF) (a : XA) (d0 : D) : callT1 g a d0 ρ = (a ρ).bind (callT2 g d0) := rfl
def listO (o : Option Slot) : Option (List D) := match o with
  | some (.own (.lst ds)) => some ds
  | _ => none
theorem zbB : ownL i ρ = listO ρ[i]? := rfl
theorem zbC (ds : List D) : listO (some (.own (.lst ds))) = some ds := rfl
def withO (f : List D → XS) (ρ : Rho) (o : Option (List D)) : Fl := match o with
  | some ds => f ds ρ
  | none => .bad
theorem zbD (f : List D → XS) : withL i f ρ = withO f ρ (ownL i ρ) := by
  unfold withL withO
  cases ownL i ρ <;> rfl
theorem zbE (f : List D → XS) (ds : List D) : withO f ρ (some ds) = f ds ρ := rfl
def withOV (f : List D → Rho → Res α) (ρ : Rho) (o : Option (List D)) : Res α := match o with
  | some ds => f ds ρ
  | none => .bad
def rdO (o : Option Slot) : Option D := match o with
  | some (.own d) => some d
  | some (.rd d) => some d
  | _ => none
theorem zbF : rdD i ρ = rdO ρ[i]? := rfl
theorem zbG (d : D) : rdO (some (.own d)) = some d := rfl
theorem zbH (d : D) : rdO (some (.rd d)) = some d := rfl
def rdOL (o : Option D) : Option (List D) := match o with
  | some (.lst ds) => some ds
  | _ => none
theorem zbI : rdL i ρ = rdOL (rdD i ρ) := rfl
theorem zbJ (ds : List D) : rdOL (some (.lst ds)) = some ds := rfl
theorem zbK (f : List D → Rho → Res α) : withR i f ρ = withOV f ρ (rdL i ρ) := by
  unfold withR withOV
  cases rdL i ρ <;> rfl
theorem zbL (f : List D → Rho → Res α) (ds : List D) : withOV f ρ (some ds) = f ds ρ := rfl
def appk2 (i : Nat) (d : D) : List D → XS := fun ds ρ1 => if ds.length < sizeLine then .nx (ρ1.set i (.own (.lst (ds ++ [d])))) else .bad
def appk (i : Nat) : D → Rho → Fl := fun d => withL i (appk2 i d)
def appk0 (i : Nat) (te : XV) : List D → XS := fun _ ρ => (te ρ).fl (appk i)
theorem zbM : xAppend i ta ρ = withL i (appk0 i ta) ρ := rfl
theorem zbN (ds : List D) : appk0 i ta ds ρ = (ta ρ).fl (appk i) := rfl
theorem zbO (d : D) : appk i d ρ = withL i (appk2 i d) ρ := rfl
theorem zbP (d : D) (ds : List D) (hz : ds.length < sizeLine) : appk2 i d ds ρ = .nx (ρ.set i (.own (.lst (ds ++ [d])))) := if_pos hz
def mutk (i : Nat) (f : List D → List D) : List D → XS := fun ds ρ => .nx (ρ.set i (.own (.lst (f ds))))
theorem zbQ (f : List D → List D) : xMut i f ρ = withL i (mutk i f) ρ := rfl
theorem zbR (f : List D → List D) (ds : List D) : mutk i f ds ρ = .nx (ρ.set i (.own (.lst (f ds)))) := rfl
def setO2 (i : Nat) (ρ : Rho) (o : Option (List D)) : Fl := match o with
  | some ds' => .nx (ρ.set i (.own (.lst ds')))
  | none => .bad
def setk3 (i : Nat) (d k : D) : List D → XS := fun ds ρ2 => setO2 i ρ2 (dSetAt ds k d)
def setk2 (i : Nat) (d : D) : D → Rho → Fl := fun k => withL i (setk3 i d k)
def setk1 (i : Nat) (tk : XV) (d : D) : List D → XS := fun _ ρ1 => (tk ρ1).fl (setk2 i d)
def setk0 (i : Nat) (tk : XV) : D → Rho → Fl := fun d => withL i (setk1 i tk d)
theorem zbS : xSetIx i ta tb ρ = (tb ρ).fl (setk0 i ta) := rfl
theorem zbT (d : D) : setk0 i ta d ρ = withL i (setk1 i ta d) ρ := rfl
theorem zbU (d : D) (ds : List D) : setk1 i ta d ds ρ = (ta ρ).fl (setk2 i d) := rfl
theorem zbV (d k : D) : setk2 i d k ρ = withL i (setk3 i d k) ρ := rfl
theorem zbW (d k : D) (ds : List D) : setk3 i d k ds ρ = setO2 i ρ (dSetAt ds k d) := rfl
theorem zbX (ds : List D) : setO2 i ρ (some ds) = .nx (ρ.set i (.own (.lst ds))) := rfl
theorem zbY (ds : List D) (j : Int) (d : D) : dSetAt ds (.int j) d = (ixN ds.length j).map fun m => ds.set m d := rfl
def ixk2 (i : Nat) (k : D) : List D → Rho → Res D := fun ds => G.lift (dAt ds) k
def ixk (i : Nat) : D → Rho → Res D := fun k => withR i (ixk2 i k)
def ixk0 (i : Nat) (tk : XV) : List D → Rho → Res D := fun _ ρ => (tk ρ).bind (ixk i)
theorem zbZ : xIxO i ta ρ = withR i (ixk0 i ta) ρ := rfl
theorem zca (ds : List D) : ixk0 i ta ds ρ = (ta ρ).bind (ixk i) := rfl
theorem zcb (k : D) : ixk i k ρ = withR i (ixk2 i k) ρ := rfl
theorem zcc (k : D) (ds : List D) : ixk2 i k ds ρ = liftO (dAt ds k) ρ := rfl
theorem zcd (ds : List D) (j : Int) : dAt ds (.int j) = atI ds j := rfl
def lenk : List D → Rho → Res D := fun ds ρ => .ok (.int (ds.length : Nat)) ρ
theorem zce : xLenO i ρ = withR i lenk ρ := rfl
theorem zcf (ds : List D) : lenk ds ρ = .ok (.int (ds.length : Nat)) ρ := rfl
def blO (o : Option Bool) (ρ : Rho) : Res D := match o with
  | some b => .ok (.bl b) ρ
  | none => .bad
def cmpO2 (f : D → D → Option D) (x : D) (ρ : Rho) (o : Option D) : Res D := match o with
  | some y => blO (dBl f x y) ρ
  | none => .bad
def cmpOk (f : D → D → Option D) (i : Nat) : D → Rho → Res D := fun x ρ1 => cmpO2 f x ρ1 (rdD i ρ1)
theorem zcg : xCmpO f ta i ρ = (ta ρ).bind (cmpOk f i) := rfl
theorem zch (x : D) : cmpOk f i x ρ = cmpO2 f x ρ (rdD i ρ) := rfl
theorem zci (x y : D) : cmpO2 f x ρ (some y) = blO (dBl f x y) ρ := rfl
theorem zcj (b : Bool) : blO (some b) ρ = .ok (.bl b) ρ := rfl
theorem zck (x y : D) : dBl dEq x y = eqD x y := by unfold dBl dEq; cases eqD x y <;> rfl
theorem zcl (x y : D) : dBl dNe x y = (eqD x y).map (!·) := by unfold dBl dNe; cases eqD x y <;> rfl
theorem zcm (x y : D) : dBl dIn x y = inD x y := by unfold dBl dIn; cases inD x y <;> rfl
theorem zcn (x y : D) : dBl dNotIn x y = (inD x y).map (!·) := by unfold dBl dNotIn; cases inD x y <;> rfl
def fork (g : XG) (body : XS) : List D → Rho → Fl := fun ds ρ1 => forRun g body ds ρ1
theorem zco (ti : XA) (g : XG) : xFor ti g p ρ = (ti ρ).fl (fork g p) := rfl
theorem zcp (g : XG) (ds : List D) : fork g p ds ρ = forRun g p ds ρ := rfl
theorem zcq : xIt ta ρ = (ta ρ).bind (G.lift dItems) := rfl
theorem zcr : xItR1 ta ρ = (ta ρ).bind (G.lift dRange1) := rfl
def r2k (tb : XV) : D → Rho → Res (List D) := fun x ρ1 => (tb ρ1).bind (G.lift (dRange2 x))
theorem zcs : xItR2 ta tb ρ = (ta ρ).bind (r2k tb) := rfl
theorem zct (x : D) : r2k tb x ρ = (tb ρ).bind (G.lift (dRange2 x)) := rfl
theorem zcu (n : Int) (h : inR n = true) : dRange1 (.int n) = some (rangeD 0 n.toNat) := if_pos h
theorem zcv (a b : Int) (h : inR a = true) (k : inR b = true) : dRange2 (.int a) (.int b) = some (rangeD a (b - a).toNat) := if_pos ⟨h, k⟩
theorem inR_of {n : Int} (h : -(2 ^ 62) ≤ n ∧ n < 2 ^ 62) : inR n = true := (inR_iff n).mpr h
theorem zcw : inR 0 = true := by decide
theorem zcx : inR 1 = true := by decide
theorem zcy : inR (-1) = true := by decide
theorem zcz : inR 2 = true := by decide
theorem zcA : inR 3 = true := by decide
theorem zcB : inR 4 = true := by decide
theorem zcC : inR 5 = true := by decide
theorem zcD : inR 6 = true := by decide
theorem zcE : inR 7 = true := by decide
theorem zcF : inR 8 = true := by decide
theorem zcG : inR 9 = true := by decide
theorem zcH (ds : List D) : dItems (.lst ds) = some ds := rfl
theorem zcI (ds : List D) : dItems (.tup ds) = some ds := rfl
theorem zcJ (ds : List D) : dItems (.fix ds) = some ds := rfl
/-- one turn of a loop -/
def turnFl (g : XG) (body : XS) (r : List D) (f : Fl) : Fl := match f with
  | .nx ρ2 => forRun g body r ρ2
  | .cnt ρ2 => forRun g body r ρ2
  | .brk ρ2 => .nx ρ2
  | f => f
def turnO (g : XG) (body : XS) (r : List D) (o : Option Rho) : Fl := match o with
  | none => .bad
  | some ρ1 => turnFl g body r (body ρ1)
theorem zcK (g : XG) (d : D) (r : List D) : forRun g p (d :: r) ρ = turnO g p r (g d ρ) := by
  show (match g d ρ with | none => Fl.bad | some ρ1 => match p ρ1 with | .nx ρ2 => forRun g p r ρ2 | .cnt ρ2 => forRun g p r ρ2 | .brk ρ2 => .nx ρ2 | f => f) = _
  unfold turnO turnFl
  cases g d ρ with
  | none => rfl
  | some ρ1 => cases p ρ1 <;> rfl
theorem zcL (g : XG) (r : List D) : turnO g p r (some ρ) = turnFl g p r (p ρ) := rfl
theorem zcM (g : XG) (r : List D) : turnFl g p r (.nx ρ) = forRun g p r ρ := rfl
theorem zcN (g : XG) (r : List D) : turnFl g p r (.cnt ρ) = forRun g p r ρ := rfl
theorem zcO (g : XG) (r : List D) : turnFl g p r (.brk ρ) = .nx ρ := rfl
theorem zcP (g : XG) (r : List D) (d : D) : turnFl g p r (.ret d ρ) = .ret d ρ := rfl
theorem zcQ (g : XG) (r : List D) (c : String) : turnFl g p r (.exc c ρ) = .exc c ρ := rfl
def cmpL2 (f : D → D → Option D) (y : D) (ρ : Rho) (o : Option D) : Res D := match o with
  | some x => blO (dBl f x y) ρ
  | none => .bad
def cmpL1 (f : D → D → Option D) (i : Nat) : D → Rho → Res D := fun y ρ1 => cmpL2 f y ρ1 (rdD i ρ1)
def cmpL0 (f : D → D → Option D) (i : Nat) (tb : XV) (ρ : Rho) (o : Option D) : Res D := match o with
  | none => .bad
  | some _ => (tb ρ).bind (cmpL1 f i)
theorem zcR : xCmpOL f i tb ρ = cmpL0 f i tb ρ (rdD i ρ) := by
  unfold xCmpOL cmpL0
  cases rdD i ρ <;> rfl
theorem zcS (d : D) : cmpL0 f i tb ρ (some d) = (tb ρ).bind (cmpL1 f i) := rfl
theorem zcT (y : D) : cmpL1 f i y ρ = cmpL2 f y ρ (rdD i ρ) := rfl
theorem zcU (x y : D) : cmpL2 f y ρ (some x) = blO (dBl f x y) ρ := rfl
def consR2 (x : D) : List D → Rho → Res (List D) := fun xs ρ2 => if nofx x = true then .ok (x :: xs) ρ2 else .bad
def consR1 (tr : XA) : D → Rho → Res (List D) := fun x ρ1 => (tr ρ1).bind (consR2 x)
theorem zcV (tr : XA) : xConsR ta tr ρ = (ta ρ).bind (consR1 tr) := rfl
theorem zcW (tr : XA) (x : D) : consR1 tr x ρ = (tr ρ).bind (consR2 x) := rfl
theorem zcX (ds xs : List D) : consR2 (.lst ds) xs ρ = .ok (.lst ds :: xs) ρ := rfl
theorem zcY (ds xs : List D) : consR2 (.tup ds) xs ρ = .ok (.tup ds :: xs) ρ := rfl
theorem zcZ (n : Int) (xs : List D) : consR2 (.int n) xs ρ = .ok (.int n :: xs) ρ := rfl
theorem zda (n : Bool) (xs : List D) : consR2 (.bl n) xs ρ = .ok (.bl n :: xs) ρ := rfl
theorem zdb (n : Str) (xs : List D) : consR2 (.str n) xs ρ = .ok (.str n :: xs) ρ := rfl
theorem zdc (xs : List D) : consR2 .non xs ρ = .ok (.non :: xs) ρ := rfl
def consO2 (ds : List D) (ρ1 : Rho) (o : Option D) : Res (List D) := match o with
  | some d => .ok (d :: ds) ρ1
  | none => .bad
def consO1 (j : Nat) : List D → Rho → Res (List D) := fun ds ρ1 => consO2 ds ρ1 (rdD j ρ1)
def consO0 (j : Nat) (tr : XA) (ρ : Rho) (o : Option D) : Res (List D) := match o with
  | none => .bad
  | some _ => (tr ρ).bind (consO1 j)
theorem zdd (tr : XA) : xConsO i tr ρ = consO0 i tr ρ (rdD i ρ) := by
  unfold xConsO consO0
  cases rdD i ρ <;> rfl
theorem zde (tr : XA) (d : D) : consO0 i tr ρ (some d) = (tr ρ).bind (consO1 i) := rfl
theorem zdf (ds : List D) : consO1 i ds ρ = consO2 ds ρ (rdD i ρ) := rfl
theorem zdg (d : D) (ds : List D) : consO2 ds ρ (some d) = .ok (d :: ds) ρ := rfl
def lockO (i : Nat) (t : Rho → Res α) (ρ : Rho) (o : Option D) : Res α := match o with
  | some d => (t (ρ.set i (.rd d))).unl i
  | none => .bad
theorem zdh (t : Rho → Res α) : lockV i t ρ = lockO i t ρ (ownD i ρ) := by
  unfold lockV lockO
  cases ownD i ρ <;> rfl
theorem zdi (t : Rho → Res α) (d : D) : lockO i t ρ (some d) = (t (ρ.set i (.rd d))).unl i := rfl
def lockSO (i : Nat) (t : XS) (ρ : Rho) (o : Option D) : Fl := match o with
  | some d => (t (ρ.set i (.rd d))).unl i
  | none => .bad
theorem zdj : lockS i p ρ = lockSO i p ρ (ownD i ρ) := by
  unfold lockS lockSO
  cases ownD i ρ <;> rfl
theorem zdk (d : D) : lockSO i p ρ (some d) = (p (ρ.set i (.rd d))).unl i := rfl
theorem zdl (a : α) : (Res.ok a ρ).unl i = .ok a (unl i ρ) := rfl
theorem zdm : (Fl.nx ρ).unl i = .nx (unl i ρ) := rfl
theorem zdn (d : D) : (Fl.ret d ρ).unl i = .ret d (unl i ρ) := rfl
theorem zdo : (Fl.brk ρ).unl i = .brk (unl i ρ) := rfl
theorem zdp : (Fl.cnt ρ).unl i = .cnt (unl i ρ) := rfl
theorem zdq (c : String) : (Fl.exc c ρ).unl i = .exc c (unl i ρ) := rfl
def unlO (i : Nat) (ρ : Rho) (o : Option Slot) : Rho := match o with
  | some (.rd d) => ρ.set i (.own d)
  | _ => ρ
theorem zdr : unl i ρ = unlO i ρ ρ[i]? := rfl
theorem zds (d : D) : unlO i ρ (some (.rd d)) = ρ.set i (.own d) := rfl
theorem zdt (d : D) : unlO i ρ (some (.own d)) = ρ := rfl
theorem zdu (d : D) : unlO i ρ (some (.val d)) = ρ := rfl
def itO (o : Option Slot) (ρ : Rho) : Res (List D) := match o with
  | some (.rd d) => lift dItems d ρ
  | _ => .bad
theorem zdv : xItO i ρ = itO ρ[i]? ρ := rfl
theorem zdw (d : D) : itO (some (.rd d)) ρ = liftO (dItems d) ρ := rfl
def lstk : List D → Rho → Res D := fun acc ρ2 => .ok (.lst acc) ρ2
def lcK (g : XG) (tt : XT) (te : XV) (vs : List Nat) : List D → Rho → Res D := fun ds ρ1 => if ds.length ≤ sizeLine ∧ noOwn ρ1 vs = true then (lcRun g tt te vs ds [] ρ1).bind lstk else .bad
theorem zdx (ti : XA) (g : XG) (tt : XT) (te : XV) (vs : List Nat) : xLC ti g tt te vs ρ = (ti ρ).bind (lcK g tt te vs) := rfl
theorem zdy (g : XG) (tt : XT) (te : XV) (vs : List Nat) (ds : List D) (hz : ds.length ≤ sizeLine) (hn : noOwn ρ vs = true) : lcK g tt te vs ds ρ = (lcRun g tt te vs ds [] ρ).bind lstk := if_pos ⟨hz, hn⟩
theorem zdz (acc : List D) : lstk acc ρ = .ok (.lst acc) ρ := rfl
def notOwn (o : Option Slot) : Bool := match o with
  | some (.own _) => false
  | _ => true
theorem zdA : noOwn ρ [] = true := rfl
theorem zdB (v : Nat) (vs : List Nat) : noOwn ρ (v :: vs) = (notOwn ρ[v]? && noOwn ρ vs) := rfl
theorem zdC (d : D) : notOwn (some (.val d)) = true := rfl
theorem zdD (d : D) : notOwn (some (.rd d)) = true := rfl
theorem zdE : notOwn (some .emp) = true := rfl
theorem zdF : wipeR ρ [] = ρ := rfl
theorem zdG (v : Nat) (vs : List Nat) : wipeR ρ (v :: vs) = (wipeR ρ vs).set v .emp := rfl
theorem zdH : backR ρ ρ1 [] = ρ1 := rfl
theorem zdI (v : Nat) (vs : List Nat) : backR ρ ρ1 (v :: vs) = (backR ρ ρ1 vs).set v (ρ.getD v .emp) := rfl
/-- one turn of a comprehension -/
def lcS2 (vs : List Nat) (ρ0 : Rho) : D → Rho → Res (Option D) := fun y ρ3 => .ok (some y) (backR ρ0 ρ3 vs)
def lcS1 (te : XV) (vs : List Nat) (ρ0 : Rho) : Bool → Rho → Res (Option D) := fun b ρ2 => if b = true then (te ρ2).bindX (lcS2 vs ρ0) else .ok none (backR ρ0 ρ2 vs)
def lcS0 (tt : XT) (te : XV) (vs : List Nat) (ρ0 : Rho) : Option Rho → Res (Option D)
  | none => .bad
  | some ρ1 => (tt ρ1).bindX (lcS1 te vs ρ0)
def lcStep (g : XG) (tt : XT) (te : XV) (vs : List Nat) (d : D) : Rho → Res (Option D) := fun ρ => lcS0 tt te vs ρ (g d (wipeR ρ vs))
theorem zdJ (g : XG) (tt : XT) (te : XV) (vs : List Nat) (d : D) : lcStep g tt te vs d ρ = lcS0 tt te vs ρ (g d (wipeR ρ vs)) := rfl
theorem zdK (tt : XT) (te : XV) (vs : List Nat) : lcS0 tt te vs ρ (some ρ1) = (tt ρ1).bindX (lcS1 te vs ρ) := rfl
theorem zdL (te : XV) (vs : List Nat) : lcS1 te vs ρ true ρ1 = (te ρ1).bindX (lcS2 vs ρ) := rfl
theorem zdM (te : XV) (vs : List Nat) : lcS1 te vs ρ false ρ1 = .ok none (backR ρ ρ1 vs) := rfl
theorem zdN (vs : List Nat) (d : D) : lcS2 vs ρ d ρ1 = .ok (some d) (backR ρ ρ1 vs) := rfl
theorem zdO : xYes ρ = .ok true ρ := rfl
def endP (fr : Bool) : Fl → FR
  | .ret d _ => .ok d []
  | .nx _ => if fr = true then .bad else .ok .non []
  | .exc c _ => .exc c []
  | _ => .bad
def runO (n : Nat) (fr : Bool) (body : XS) (o : Option (List Slot)) : FR := match o with
  | some ss => endP fr (body (ss ++ List.replicate (n - ss.length) .emp))
  | none => .bad
theorem zdP (md : List Bool) (n : Nat) (fr : Bool) (ds : List D) : runP md n fr p ds = runO n fr p (ini md ds) := by
  unfold runP runO endP
  cases ini md ds <;> rfl
theorem zdQ (n : Nat) (fr : Bool) (ss : List Slot) : runO n fr p (some ss) = endP fr (p (ss ++ List.replicate (n - ss.length) .emp)) := rfl
theorem zdR (fr : Bool) (d : D) : endP fr (.ret d ρ) = .ok d [] := rfl
theorem zdS : endP false (.nx ρ) = .ok .non [] := rfl
theorem zdT (fr : Bool) (c : String) : endP fr (.exc c ρ) = .exc c [] := rfl
theorem zdU : ini [] [] = some [] := rfl
theorem zdV (m : Bool) (ms : List Bool) (d : D) (ds : List D) : ini (m :: ms) (d :: ds) = (ini ms ds).map (Slot.of m d :: ·) := rfl
theorem of_f (d : D) : Slot.of false d = .val d := rfl
theorem of_t (d : D) : Slot.of true d = .rd d := rfl
def endB (fr : Bool) : Fl → FR
  | .ret d ρ => .ok d (slot0 ρ)
  | .nx ρ => if fr = true then .bad else .ok .non (slot0 ρ)
  | .exc c ρ => .exc c (slot0 ρ)
  | _ => .bad
def runBO (n : Nat) (fr : Bool) (body : XS) (d0 : D) (o : Option (List Slot)) : FR := match o with
  | some ss => endB fr (body (.own d0 :: ss ++ List.replicate (n - (ss.length + 1)) .emp))
  | none => .bad
theorem zdW (md : List Bool) (n : Nat) (fr : Bool) (d0 : D) (ds : List D) : runB md n fr p (d0 :: ds) = runBO n fr p d0 (ini md ds) := by
  show (match ini md ds with | some ss => _ | none => _) = _
  unfold runBO endB
  cases ini md ds <;> rfl
theorem zdX (n : Nat) (fr : Bool) (d0 : D) (ss : List Slot) : runBO n fr p d0 (some ss) = endB fr (p (.own d0 :: ss ++ List.replicate (n - (ss.length + 1)) .emp)) := rfl
theorem zdY (fr : Bool) (d d0 : D) : endB fr (.ret d (.own d0 :: ρ)) = .ok d [d0] := rfl
theorem zdZ (d0 : D) : endB false (.nx (.own d0 :: ρ)) = .ok .non [d0] := rfl
theorem zea (fr : Bool) (c : String) (d0 : D) : endB fr (.exc c (.own d0 :: ρ)) = .exc c [d0] := rfl
theorem zeb (a b : Int) : dAdd (.int a) (.int b) = some (.int (a + b)) := rfl
theorem zec (a b : Int) : dSub (.int a) (.int b) = some (.int (a - b)) := rfl
theorem zed {a b : Int} (hc : CMulA a b) : dMul (.int a) (.int b) = some (.int (a * b)) := if_pos hc
theorem zee {a b : Int} (hc : CDivW a b) : dDiv (.int a) (.int b) = some (.int (a / b)) := if_pos hc
theorem zef {a b : Int} (hc : 0 < b) : dMod (.int a) (.int b) = some (.int (a % b)) := if_pos hc
theorem zeg {a b : Int} (hc : CPow a b) : dPow (.int a) (.int b) = some (.int (a ^ b.toNat)) := if_pos hc
theorem zeh (c : Int → Int → Bool) (a b : Int) : dCmp c (.int a) (.int b) = some (.bl (c a b)) := rfl
theorem zei (a b : Int) : dLt (.int a) (.int b) = some (.bl (decide (a < b))) := rfl
theorem zej (a : Int) : dNeg (.int a) = some (.int (-a)) := rfl
theorem zek (x y : D) : dEq x y = (eqD x y).map .bl := rfl
theorem zel (x y : D) : dNe x y = (eqD x y).map fun b => .bl (!b) := rfl
theorem zem (x y : D) : dIn x y = (inD x y).map .bl := rfl
theorem zen (x y : D) : dNotIn x y = (inD x y).map fun b => .bl (!b) := rfl
theorem zeo (ds : List D) (j : Int) : dIx (.lst ds) (.int j) = atI ds j := rfl
theorem zep (ds : List D) (j : Int) : dIx (.tup ds) (.int j) = atI ds j := rfl
theorem zeq (ds : List D) (j : Int) : dIx (.fix ds) (.int j) = atI ds j := rfl
theorem zer (ds : List D) : dLen [.lst ds] = some (.int (ds.length : Nat)) := rfl
theorem zes (ds : List D) : dLen [.tup ds] = some (.int (ds.length : Nat)) := rfl
theorem zet (ds : List D) : dLen [.fix ds] = some (.int (ds.length : Nat)) := rfl
theorem zeu (a : Int) : dAbs [.int a] = some (.int (if a < 0 then -a else a)) := rfl
theorem dTup_ap {ds : List D} (hc : ds.length ≤ sizeLine) : dTup ds = some (.tup ds) := if_pos hc
theorem dLst_ap {ds : List D} (hc : ds.length ≤ sizeLine) : dLst ds = some (.lst ds) := if_pos hc
theorem zev (a b : D) : dTup [a, b] = some (.tup [a, b]) := dTup_ap (len_sz1 (by show 2 ≤ 100000; decide))
theorem zew (a b c : D) : dTup [a, b, c] = some (.tup [a, b, c]) := dTup_ap (len_sz1 (by show 3 ≤ 100000; decide))
theorem zex (a b c d : D) : dTup [a, b, c, d] = some (.tup [a, b, c, d]) := dTup_ap (len_sz1 (by show 4 ≤ 100000; decide))
theorem zey (a : D) : dTup [a] = some (.tup [a]) := dTup_ap (len_sz1 (by show 1 ≤ 100000; decide))
theorem zez : dTup [] = some (.tup []) := dTup_ap (len_sz1 (by show 0 ≤ 100000; decide))
theorem zeA (a b c d : D) : dLst [a, b, c, d] = some (.lst [a, b, c, d]) := dLst_ap (len_sz1 (by show 4 ≤ 100000; decide))
theorem zeB : dLst [] = some (.lst []) := dLst_ap (len_sz1 (by show 0 ≤ 100000; decide))
theorem zeC (a : D) : dLst [a] = some (.lst [a]) := dLst_ap (len_sz1 (by show 1 ≤ 100000; decide))
theorem zeD (a b : D) : dLst [a, b] = some (.lst [a, b]) := dLst_ap (len_sz1 (by show 2 ≤ 100000; decide))
theorem zeE (a b c : D) : dLst [a, b, c] = some (.lst [a, b, c]) := dLst_ap (len_sz1 (by show 3 ≤ 100000; decide))
end
end G


namespace G
open PySem PySem.Spec PyProof.Rows L2
local macro_rules | `(tactic| simp! [$ls,*] $[$loc:location]?) => `(tactic| simp only [zaa, zab, zac, zad, zae, zaf, zag, zah, zai, zaj, zak, zal, zam, zan, zao, zap, zaq, zar, zas, zat, zau, zav, zaw, zax, zay, zaz, zaA, zaB, zaC, zaD, zaE, zaF, zaG, zaH, zaI, zaJ, zaK, zaL, zaM, zaN, zaO, zaP, zaQ, zaR, zaS, zaT, zaU, zaV, zaW, zaX, zaY, zaZ, zba, zbb, zbc, zbd, zbe, zbf, zbg, zbh, zbi, zbj, zbk, zbl, zbm, zbn, zbo, zbp, zbq, zbr, zbs, zbt, zbu, zbv, zbw, zbx, zby, zbz, zbA, zbB, zbC, zbD, zbE, zbF, zbG, zbH, zbI, zbJ, zbK, zbL, zbM, zbN, zbO, zbP, zbQ, zbR, zbS, zbT, zbU, zbV, zbW, zbX, zbY, zbZ, zca, zcb, zcc, zcd, zce, zcf, zcg, zch, zci, zcj, zck, zcl, zcm, zcn, zco, zcp, zcq, zcr, zcs, zct, zcu, zcv, zcw, zcx, zcy, zcz, zcA, zcB, zcC, zcD, zcE, zcF, zcG, zcH, zcI, zcJ, zcK, zcL, zcM, zcN, zcO, zcP, zcQ, zcR, zcS, zcT, zcU, zcV, zcW, zcX, zcY, zcZ, zda, zdb, zdc, zdd, zde, zdf, zdg, zdh, zdi, zdj, zdk, zdl, zdm, zdn, zdo, zdp, zdq, zdr, zds, zdt, zdu, zdv, zdw, zdx, zdy, zdz, zdA, zdB, zdC, zdD, zdE, zdF, zdG, zdH, zdI, zdJ, zdK, zdL, zdM, zdN, zdO, zdP, zdQ, zdR, zdS, zdT, zdU, zdV, G.of_f, G.of_t, zdW, zdX, zdY, zdZ, zea, zeb, zec, zed, zee, zef, zeg, zeh, zei, zej, zek, zel, zem, zen, zeo, zep, zeq, zer, zes, zet, zeu, zev, zew, zex, zey, zez, zeA, zeB, zeC, zeD, zeE, List.getElem?_cons_zero, List.getElem?_cons_succ, List.set_cons_zero, List.set_cons_succ, G.atI_0, G.atI_1, G.atI_2, G.atI_3, Option.map_some, Option.bind_some, G.eqD_int, G.eqD_cell, G.eqD_bl, List.length_cons, List.length_nil, List.getD_cons_zero, List.getD_cons_succ, Bool.and_true, Bool.and_self, decide_true, decide_false, Bool.not_true, Bool.not_false, List.append_nil, List.nil_append, List.cons_append, if_true, if_false, Bool.false_eq_true, reduceIte, Int.reduceLT, Int.reduceLE, Int.reduceToNat, Int.reducePow, Int.reduceNeg, Int.reduceAdd, Int.reduceSub, Int.reduceMul, Nat.reduceAdd, Int.reduceEq, List.replicate, Nat.reduceSub, and_self, and_true, true_and, $ls,*] $[$loc]?)

/-- a pen from which n numbers at most were drawn -/
def PenOk (n : Nat) (p : D) : Prop := ∃ a b c : Int, p = .lst [.int a, .int b, .int c] ∧ 0 ≤ c ∧ c ≤ n
theorem PenOk.mono {n m : Nat} {p : D} (h : PenOk n p) (e : n ≤ m) : PenOk m p := by
  obtain ⟨a, b, c, h1, h2, h3⟩ := h
  exact ⟨a, b, c, h1, h2, by omega⟩
def bDraw : XS := (xSeq (xSetIx 0 (xC (.int 2)) (xOp2 dAdd (xIxO 0 (xC (.int 2))) (xC (.int 1))))
    (xSeq (xIfS (xTest (xOp2 (dCmp fun i j => decide (j < i)) (xIxO 0 (xC (.int 0))) (xC (.int 0))))
    (xSeq (xSet 2 (xOp2 dMod (xIxO 0 (xC (.int 0))) (xVar 1)))
    (xSeq (xSetIx 0 (xC (.int 0)) (xOp2 dDiv (xIxO 0 (xC (.int 0))) (xVar 1)))
    (xRet (xVar 2))))
    xNext)
    (xSeq (xSet 3 (xOp2 dMod (xOp2 dAdd (xOp2 dAdd (xIxO 0 (xC (.int 1))) (xOp2 dMul (xC (.int 48271)) (xIxO 0 (xC (.int 2))))) (xC (.int 11))) (xC (.int 2147483629))))
    (xSeq (xSet 3 (xOp2 dAdd (xOp2 dMod (xOp2 dMul (xVar 3) (xVar 3)) (xC (.int 2147483587))) (xOp2 dMul (xC (.int 7919)) (xIxO 0 (xC (.int 2))))))
    (xSeq (xSet 3 (xOp2 dMod (xOp2 dMul (xVar 3) (xVar 3)) (xC (.int 2147483629))))
    (xRet (xOp2 dMod (xOp2 dDiv (xVar 3) (xC (.int 64))) (xVar 1))))))))
def fDraw : DF := runB [false] 4 false bDraw
theorem ix3 (n : Int) (h : 0 ≤ n ∧ n < 3) : ixN 3 n = some n.toNat := by
  unfold ixN
  rw [if_pos h.1, if_pos (by omega)]
theorem natAbs_lt {i : Int} {k : Nat} (h : -(2 ^ k) < i ∧ i < 2 ^ k) : i.natAbs < 2 ^ k := by
  have e : ((2 : Int) ^ k) = ((2 ^ k : Nat) : Int) := by rw [Int.natCast_pow]; rfl
  rw [e] at h
  omega
theorem draw_ex {n : Nat} {p : D} (h : PenOk n p) (hn : n < 2 ^ 60) {m : Int} (hm : 0 < m) (hm2 : m < 2 ^ 200) : ∃ r p', fDraw [p, .int m] = .ok (.int r) [p'] ∧ 0 ≤ r ∧ r < m ∧ PenOk (n + 1) p' := by
  obtain ⟨a, b, c, rfl, hc0, hc⟩ := h
  have hd : CDivW a m := CDivW.s a ⟨hm, hm2⟩
  unfold fDraw bDraw
  have i2 : ixN 3 2 = some 2 := ix3 2 ⟨by decide, by decide⟩
  have i0 : ixN 3 0 = some 0 := ix3 0 ⟨by decide, by decide⟩
  by_cases ha : 0 < a
  · simp! [i2, i0, hm, hd, ha]
    exact ⟨_, _, rfl, Int.emod_nonneg _ (by omega), Int.emod_lt_of_pos _ hm, ⟨_, _, _, rfl, by omega, by omega⟩⟩
  · have m1 : CMulA 48271 (c + 1) := CMulA.l _ ⟨by decide, by decide⟩
    have m2 : CMulA 7919 (c + 1) := CMulA.l _ ⟨by decide, by decide⟩
    have d1 : ∀ x : Int, CDivW x 64 := fun x => CDivW.s x ⟨by decide, by decide⟩
    generalize hx : (b + 48271 * (c + 1) + 11) % 2147483629 = x at *
    have hx0 : 0 ≤ x := by rw [← hx]; exact Int.emod_nonneg _ (by decide)
    have hx1 : x < 2147483629 := by rw [← hx]; exact Int.emod_lt_of_pos _ (by decide)
    have m3 : CMulA x x := CMulA.l _ ⟨by omega, by omega⟩
    generalize hy : x * x % 2147483587 + 7919 * (c + 1) = y at *
    have hy0 : 0 ≤ x * x % 2147483587 := Int.emod_nonneg _ (by decide)
    have hy1 : x * x % 2147483587 < 2147483587 := Int.emod_lt_of_pos _ (by decide)
    have m4 : CMulA y y := by
      have q : y.natAbs < 2 ^ 100 := natAbs_lt (k := 100) ⟨by omega, by omega⟩
      exact .inr (wide_mul q q (by decide) (by decide) (by decide))
    simp! [i2, i0, hm, d1, ha, slot0, m1, m2, hx, m3, hy, m4]
    exact ⟨_, _, rfl, Int.emod_nonneg _ (by omega), Int.emod_lt_of_pos _ hm, ⟨_, _, _, rfl, by omega, by omega⟩⟩
def bPen : XS := (xSeq (xSet 2 (xOp2 dAdd (xOp2 dMul (xC (.int 7919)) (xVar 1)) (xC (.int 5))))
    (xSeq (xIfS (xTest (xOp2 dLt (xVar 1) (xOpL dLen (xCons (xVar 0) xNil))))
    (xSet 2 (xOp2 dIx (xVar 0) (xVar 1)))
    (xIfS (xTest (xOp2 (dCmp fun i j => decide (j < i)) (xOpL dLen (xCons (xVar 0) xNil)) (xC (.int 0))))
    (xSet 2 (xOp2 dAdd (xOp2 dMod (xOp2 dIx (xVar 0) (xOp2 dMod (xVar 1) (xOpL dLen (xCons (xVar 0) xNil)))) (xC (.int 2147483629))) (xOp2 dMul (xC (.int 48271)) (xVar 1))))
    xNext))
    (xSeq (xIfS (xTest (xOp2 (dCmp fun i j => decide (j ≤ i)) (xVar 2) (xOp2 dPow (xC (.int 10)) (xC (.int 18)))))
    (xRet (xOpL dLst (xCons (xOp2 dSub (xVar 2) (xOp2 dPow (xC (.int 10)) (xC (.int 18)))) (xCons (xOp2 dMod (xVar 2) (xC (.int 2147483587))) (xCons (xC (.int 0)) xNil)))))
    xNext)
    (xRet (xOpL dLst (xCons (xC (.int 0)) (xCons (xOp2 dMod (xVar 2) (xC (.int 2147483587))) (xCons (xC (.int 0)) xNil))))))))
def fPen : DF := runP [false, false] 3 true bPen
theorem atI_get_int {ns : List Int} {j : Int} (h0 : 0 ≤ j) (h1 : j < ns.length) : ∃ v : Int, atI (ns.map D.int) j = some (.int v) := by
  obtain ⟨k, rfl⟩ := Int.eq_ofNat_of_zero_le h0
  have hk : k < ns.length := by omega
  refine ⟨ns[k], atI_nat ?_⟩
  rw [List.getElem?_map, List.getElem?_eq_getElem hk]
  rfl
theorem cpow10 {j : Int} (h : 0 ≤ j ∧ j ≤ 1000) : CPow 10 j := ⟨h.1, by omega, by decide⟩
theorem pen_ex (ns : List Int) (k : Nat) : ∃ p, fPen [.fix (ns.map D.int), .int (k : Nat)] = .ok p [] ∧ PenOk 0 p := by
  unfold fPen bPen
  have m0 : CMulA 7919 (k : Int) := CMulA.l _ ⟨by decide, by decide⟩
  have m1 : CMulA 48271 (k : Int) := CMulA.l _ ⟨by decide, by decide⟩
  have c1 : CPow 10 18 := cpow10 ⟨by decide, by decide⟩
  have fin : ∀ x : Int, ∃ p, endP true ((xSeq (xIfS (xTest (xOp2 (dCmp fun i j => decide (j ≤ i)) (xVar 2) (xOp2 dPow (xC (.int 10)) (xC (.int 18)))))
    (xRet (xOpL dLst (xCons (xOp2 dSub (xVar 2) (xOp2 dPow (xC (.int 10)) (xC (.int 18)))) (xCons (xOp2 dMod (xVar 2) (xC (.int 2147483587))) (xCons (xC (.int 0)) xNil)))))
    xNext)
    (xRet (xOpL dLst (xCons (xC (.int 0)) (xCons (xOp2 dMod (xVar 2) (xC (.int 2147483587))) (xCons (xC (.int 0)) xNil)))))) [.val (.fix (ns.map D.int)), .val (.int (k : Nat)), .val (.int x)]) = .ok p [] ∧ PenOk 0 p := fun x => by
    by_cases hx : (10 : Int) ^ 18 ≤ x
    · have hx' : (1000000000000000000 : Int) ≤ x := by simpa using hx
      simp! [c1, hx']
      exact ⟨_, rfl, ⟨_, _, _, rfl, by omega, by omega⟩⟩
    · have hx' : ¬ (1000000000000000000 : Int) ≤ x := by simpa using hx
      simp! [c1, hx']
      exact ⟨_, rfl, ⟨_, _, _, rfl, by omega, by omega⟩⟩
  have hl : (ns.map D.int).length = ns.length := List.length_map _
  by_cases h1 : (k : Int) < (ns.length : Int)
  · obtain ⟨v, hv⟩ := atI_get_int (ns := ns) (j := k) (by omega) h1
    simp! [m0, hl, h1, hv]
    exact fin v
  · by_cases h2 : (0 : Int) < (ns.length : Int)
    · obtain ⟨v, hv⟩ := atI_get_int (ns := ns) (j := (k : Int) % (ns.length : Int)) (Int.emod_nonneg _ (by omega)) (Int.emod_lt_of_pos _ h2)
      simp! [m0, m1, hl, h1, h2, hv]
      exact fin _
    · simp! [m0, hl, h1, h2]
      exact fin _
end G


namespace G
open PySem PySem.Spec PyProof.Rows L2

section
variable {X : Cx} {E : EW} {pos : Pos}
end
section
variable {X : Cx} {E : EW} {a b : Expr} {pos : Pos} {ta tb : XV}
theorem xt_cmpO {op : CmpOp} {f : D → D → Option D} {r : R2} {i : Nat} {x : Str} {xp : Pos} (ho : OpR X (compareOp op) r) (hi : Imp2 X.K f r) (ha : PE X a (lE X.K E ta)) (hb : PE X (.Name x xp) (tVar i)) (hm : behindInMarks op (.Name x xp) = false) : PT X (.Compare a [op] [.Name x xp] pos) (lT X.K E (xTest (xCmpO f ta i))) := by
  refine pt_imp (pt_cmpR ho ha hb hm) fun σ H Q h => ?_
  obtain ⟨F, ρ, r, p⟩ := h
  have p := Pend.bind r p
  refine ⟨F, ρ, r, (Pend.bind r p).mono fun d ρ1 F1 H1 g1 q v rv => ?_⟩
  unfold Pend at q
  cases e0 : rdD i ρ1 with
  | none => simp only [e0] at q
  | some y =>
    simp only [e0] at q
    cases e1 : dBl f d y with
    | none => simp only [e1] at q
    | some c =>
      simp only [e1] at q
      obtain ⟨w, h1, h2⟩ := g1.rel.rd e0
      obtain ⟨F2, s1, s2, rw, k⟩ := ra_peek g1.rel.ex h2
      refine ⟨w, h1, hi F2 H1 v w d y _ _ s2 (rv.mono s1) rw (dBl_of e1) (k c _ fun F' H' g => ?_)⟩
      have q := q F' H' (g.go g1.rel)
      exact ⟨c, rfl, q F' H' (Go.refl (g.go g1.rel).rel)⟩
end
theorem ro_rpF {K : PySem.W.Frag} {F : Hp} : ∀ {p : Addr} {o : HO} {d : D}, F p = some o → Ro K F p o d → Rp K F (.ref p) d
  | _, _, _, q, .lst r => .lst q r
  | _, _, _, q, .dicK k r => .dicK q k r
  | _, _, _, q, .dicT k r => .dicT q k r
  | _, _, _, q, .dicN k r q2 => .dicN q k r q2
  | _, _, _, q, .ins c k r => .inst c q k r
  | _, _, _, q, .tab _ _ => .tab q
  | _, _, _, q, .atd r => .atd (ro_rpF q r)
def insB {α : Type} (le : α → α → Bool) (a : α) : List α → List α
  | [] => [a]
  | b :: l => if le a b = true then a :: b :: l else b :: insB le a l
def isortB {α : Type} (le : α → α → Bool) : List α → List α
  | [] => []
  | a :: l => insB le a (isortB le l)
theorem insB_at {α : Type} {le : α → α → Bool} {a : α} : ∀ {l m : List α}, (∀ b ∈ l, le a b = false) → (∀ b ∈ m, le a b = true) → insB le a (l ++ m) = l ++ a :: m
  | [], [], _, _ => rfl
  | [], b :: m, _, h => by
    show (if le a b = true then a :: b :: m else _) = _
    rw [if_pos (h b (List.mem_cons_self ..))]
    rfl
  | b :: l, m, h1, h2 => by
    show (if le a b = true then _ else b :: insB le a (l ++ m)) = _
    rw [if_neg (by rw [h1 b (List.mem_cons_self ..)]; decide), insB_at (fun c hc => h1 c (List.mem_cons_of_mem _ hc)) h2]
    rfl
theorem isortB_eq {α : Type} {le : α → α → Bool} (h : PySem.W.TotalLe le) : ∀ l : List α, l.mergeSort le = isortB le l
  | [] => List.mergeSort_nil
  | a :: l => by
    obtain ⟨l₁, l₂, e1, e2, e3⟩ := List.mergeSort_cons (le := le) (fun a b c h1 h2 => h.trans a b c h1 h2) (fun a b => Bool.or_eq_true_iff.mpr (h.total a b)) a l
    have pw := PySem.W.sort_pairwise h (a :: l)
    rw [e1] at pw
    rw [e1]
    show _ = insB le a (isortB le l)
    rw [← isortB_eq h l, e2]
    exact (insB_at (fun b hb => by simpa using e3 b hb) fun b hb => (List.pairwise_cons.mp (List.pairwise_append.mp pw).2.1).1 b hb).symm
theorem leD_total {β : Type} (k : β → PyData) : PySem.W.TotalLe (PySem.W.dataLe false k) := PySem.W.sortLe_total _ _ _
def isTupC : PyData → Bool
  | .tuple (_ :: _) => true
  | _ => false
def isOne : PyData → Bool
  | .none => false
  | .tuple _ => false
  | _ => true
theorem dItL_of {x : D} {ds : List D} {K : PySem.W.Frag} {F : Hp} {v : V} (h : dItL x = some ds) (r : Rp K F v x) : ∃ a xs, v = .ref a ∧ SqL K F a xs ∧ RpAll K F xs ds := by
  cases r with
  | lst hf ra => cases h; exact ⟨_, _, rfl, SqL.of hf, ra⟩
  | fix hf ra => cases h; exact ⟨_, _, rfl, hf, ra⟩
  | non => cases h
  | bl _ => cases h
  | int _ => cases h
  | str _ => cases h
  | ty _ => cases h
  | tup _ _ => cases h
  | dicK _ _ _ => cases h
  | dicT _ _ _ => cases h
  | dicN _ _ _ _ => cases h
  | exn _ _ => cases h
  | inst _ _ _ _ => cases h
  | _ => cases h
def dBools : List D → Option (List Bool)
  | [] => some []
  | .bl b :: r => (dBools r).map (b :: ·)
  | _ => none
theorem dBools_of : ∀ {ds : List D} {bs : List Bool}, dBools ds = some bs → ds = bs.map D.bl
  | [], bs, h => by cases h; rfl
  | .bl i :: r, bs, h => by
    unfold dBools at h
    cases q : dBools r with
    | none => rw [q] at h; cases h
    | some ms => rw [q] at h; cases h; rw [dBools_of q]; rfl
  | .non :: _, _, h => by cases h
  | .int _ :: _, _, h => by cases h
  | .str _ :: _, _, h => by cases h
  | .ty _ :: _, _, h => by cases h
  | .tup _ :: _, _, h => by cases h
  | .lst _ :: _, _, h => by cases h
  | .fix _ :: _, _, h => by cases h
  | .dicK _ _ :: _, _, h => by cases h
  | .dicT _ _ :: _, _, h => by cases h
theorem RpAll.bls {K : PySem.W.Frag} {F : Hp} : ∀ {vs : List V} {ns : List Bool}, RpAll K F vs (ns.map D.bl) → vs = ns.map V.bl
  | _, [], .nil => rfl
  | _, _ :: _, .cons (.bl _) b => by rw [RpAll.bls b]; rfl
def dAll : List D → Option D
  | [x] => (dItL x).bind fun ds => (dBools ds).map fun bs => .bl (bs.all id)
  | _ => none
theorem imp_all {K : PySem.W.Frag} : ImpL K dAll (rAll K) := fun F H vs ds d Q ex ra e o => by
  unfold dAll at e
  split at e
  · rename_i x
    cases q1 : dItL x with
    | none => rw [q1] at e; cases e
    | some ys =>
      rw [q1] at e
      simp only [Option.bind_some] at e
      cases q2 : dBools ys with
      | none => rw [q2] at e; cases e
      | some bs =>
        rw [q2] at e
        cases e
        cases ra with
        | cons r1 r2 =>
          cases r2
          obtain ⟨a, ws, rfl, hs, rs⟩ := dItL_of q1 r1
          rw [dBools_of q2] at rs
          rw [rs.bls] at hs
          exact ⟨a, bs, rfl, ex.seq hs, o.here ex (.bl _)⟩
  · cases e
end G


namespace G
open PySem PySem.Spec PyProof.Rows L2

section
variable {α : Type} {le : α → α → Bool}
theorem insB_perm (a : α) : ∀ l : List α, (insB le a l).Perm (a :: l)
  | [] => List.Perm.refl _
  | b :: l => by
    unfold insB
    split
    · exact List.Perm.refl _
    · exact ((insB_perm a l).cons b).trans (List.Perm.swap a b l)
theorem isortB_perm : ∀ l : List α, (isortB le l).Perm l
  | [] => List.Perm.refl _
  | a :: l => (insB_perm a _).trans ((isortB_perm l).cons a)
theorem isortB_pw (h : PySem.W.TotalLe le) (l : List α) : (isortB le l).Pairwise (fun a b => le a b = true) := by
  rw [← isortB_eq h]
  exact PySem.W.sort_pairwise h l
theorem isortB_of_pw (h : PySem.W.TotalLe le) : ∀ {l : List α}, l.Pairwise (fun a b => le a b = true) → isortB le l = l
  | [], _ => rfl
  | a :: l, hp => by
    obtain ⟨h1, h2⟩ := List.pairwise_cons.mp hp
    show insB le a (isortB le l) = a :: l
    rw [isortB_of_pw h h2]
    exact insB_at (l := []) (by simp) h1
theorem pw_unique (anti : ∀ a b, le a b = true → le b a = true → a = b) : ∀ {l m : List α}, l.Perm m → l.Pairwise (fun a b => le a b = true) → m.Pairwise (fun a b => le a b = true) → l = m
  | [], m, p, _, _ => (List.nil_perm.mp p).symm
  | a :: l, [], p, _, _ => by have := p.length_eq; simp at this
  | a :: l, b :: m, p, h1, h2 => by
    obtain ⟨k1, k2⟩ := List.pairwise_cons.mp h1
    obtain ⟨j1, j2⟩ := List.pairwise_cons.mp h2
    have e : a = b := by
      rcases List.mem_cons.mp (p.mem_iff.mp (List.mem_cons_self ..)) with e | e
      · exact e
      · rcases List.mem_cons.mp (p.mem_iff.mpr (List.mem_cons_self ..)) with e2 | e2
        · exact e2.symm
        · exact anti a b (k1 b e2) (j1 a e)
    subst e
    rw [pw_unique anti (List.perm_cons a |>.mp p) k2 j2]
theorem isortB_cong (h : PySem.W.TotalLe le) (anti : ∀ a b, le a b = true → le b a = true → a = b) {l m : List α} (p : l.Perm m) : isortB le l = isortB le m :=
  pw_unique anti ((isortB_perm l).trans (p.trans (isortB_perm m).symm)) (isortB_pw h l) (isortB_pw h m)
end
/-- things that can be sorted -/
class EncS (α : Type) [Enc α] : Prop where
  ali : ∀ a b : α, PySem.W.alike (Enc.py a) (Enc.py b) = true
  srt : (∀ a : α, isTupC (Enc.py a) = true) ∨ ∀ a : α, isOne (Enc.py a) = true
section
variable {α : Type} [Enc α]
def leE (a b : α) : Bool := !PySem.W.dataLt (Enc.py b) (Enc.py a)
theorem leE_total : PySem.W.TotalLe (leE (α := α)) := leD_total (fun a : α => Enc.py a)
def sortE (l : List α) : List α := isortB leE l
theorem sortE_perm (l : List α) : (sortE l).Perm l := isortB_perm l
theorem sortE_of_pw {l : List α} (h : l.Pairwise (fun a b => leE a b = true)) : sortE l = l := isortB_of_pw leE_total h
theorem mem_sortE {l : List α} {a : α} : a ∈ sortE l ↔ a ∈ l := (sortE_perm l).mem_iff
theorem leE_anti' (a b : α) (ali : PySem.W.alike (Enc.py a) (Enc.py b) = true) (h1 : leE a b = true) (h2 : leE b a = true) : a = b := by
  unfold leE at h1 h2
  rw [Bool.not_eq_true'] at h1 h2
  have e : PySem.W.keyToks (Enc.py a) = PySem.W.keyToks (Enc.py b) := (listOrd itemOrd).total _ _ h2 h1
  obtain ⟨_, k2⟩ := PySem.W.toks_eqv (Enc.py a) (Enc.py b) ali
  refine (Enc.eqv a b).mp ?_
  cases q : PyData.eqv (Enc.py a) (Enc.py b) with
  | true => rfl
  | false =>
    exfalso
    have := k2 q [] [Sum.inl 0]
    rw [e, List.append_nil] at this
    have i1 : PyProof.Rows.lexLt itemOrd (PySem.W.keyToks (Enc.py b)) (PySem.W.keyToks (Enc.py b)) = false := (listOrd itemOrd).irrefl _
    rw [i1] at this
    have i2 := PySem.W.lex_pre (PySem.W.keyToks (Enc.py b)) [] [Sum.inl 0]
    rw [List.append_nil, this] at i2
    cases i2
variable [EncS α]
theorem leE_anti (a b : α) (h1 : leE a b = true) (h2 : leE b a = true) : a = b := leE_anti' a b (EncS.ali a b) h1 h2
theorem sortE_cong {l m : List α} (p : l.Perm m) : sortE l = sortE m := isortB_cong leE_total leE_anti p
end
instance : EncS Int := ⟨fun _ _ => rfl, .inr fun _ => rfl⟩
instance {α β : Type} [Enc α] [Enc β] [EncS α] [EncS β] : EncS (α × β) := ⟨fun a b => by
  show PySem.W.alikeAll [Enc.py a.1, Enc.py a.2] [Enc.py b.1, Enc.py b.2] = true
  simp only [PySem.W.alikeAll, EncS.ali, Bool.and_self], .inl fun _ => rfl⟩
theorem alike_map {α : Type} [Enc α] [EncS α] : ∀ l m : List α, PySem.W.alikeAll (l.map Enc.py) (m.map Enc.py) = true
  | [], _ => by simp only [List.map_nil, PySem.W.alikeAll]
  | _ :: _, [] => by simp only [List.map_nil, List.map_cons, PySem.W.alikeAll]
  | a :: l, b :: m => by simp only [List.map_cons, PySem.W.alikeAll, EncS.ali, alike_map l m, Bool.and_self]
instance {α : Type} [Enc α] [EncS α] : EncS (List α) := ⟨fun a b => alike_map a b, .inr fun _ => rfl⟩
/-- four numbers -/
structure Q4 where
  a : Int
  b : Int
  c : Int
  d : Int
deriving DecidableEq
instance : Enc Q4 where
  enc := fun q => .tup [.int q.a, .int q.b, .int q.c, .int q.d]
  py := fun q => .tuple [.int q.a, .int q.b, .int q.c, .int q.d]
  dp := 1
  to := fun _ => rfl
  lay := fun _ => rfl
  dep := fun _ => Nat.le_refl _
  eqv := fun p q => by
    cases p; cases q
    simp [PyData.eqv, PyData.eqvAll]
instance : EncS Q4 := ⟨fun _ _ => rfl, .inl fun _ => rfl⟩
/-- what the order of cells is -/
theorem lt_int (a b : Int) : itemLt (.inl a) (.inl b) = decide (a < b) := rfl
theorem dataLt_pair (p q : Int × Int) : PySem.W.dataLt (Enc.py p) (Enc.py q) = decide (p.1 < q.1 ∨ p.1 = q.1 ∧ p.2 < q.2) := by
  rw [show (Enc.py p : PyData) = .tuple [.int p.1, .int p.2] from rfl, show (Enc.py q : PyData) = .tuple [.int q.1, .int q.2] from rfl, PySem.W.dataLt_tuple]
  simp only [PySem.W.keyToksAll, PySem.W.keyToks, List.cons_append, List.nil_append, PyProof.Rows.lexLt, lt_int]
  rw [Bool.eq_iff_iff]
  simp
  omega
theorem leE_pair (p q : Int × Int) : leE p q = decide (p.1 < q.1 ∨ p.1 = q.1 ∧ p.2 ≤ q.2) := by
  unfold leE
  rw [dataLt_pair, Bool.eq_iff_iff]
  simp
  omega
end G


namespace G
open PySem PySem.Spec PyProof.Rows L2

section
variable {g : XG} {tt : XT} {te : XV} {vs : List Nat} {ρ : Rho}
theorem lcRun_step (d : D) (r acc : List D) : lcRun g tt te vs (d :: r) acc ρ = (match lcStep g tt te vs d ρ with
    | .ok (some y) ρ' => lcRun g tt te vs r (acc ++ [y]) ρ'
    | .ok none ρ' => lcRun g tt te vs r acc ρ'
    | _ => .bad) := by
  show (match g d (wipeR ρ vs) with | none => Res.bad | some ρ1 => (tt ρ1).bindX fun b ρ2 => if b = true then (te ρ2).bindX fun y ρ3 => lcRun g tt te vs r (acc ++ [y]) (backR ρ ρ3 vs) else lcRun g tt te vs r acc (backR ρ ρ2 vs)) = _
  unfold lcStep
  cases g d (wipeR ρ vs) with
  | none => rfl
  | some ρ1 =>
    simp only [lcS0]
    cases tt ρ1 with
    | ok b ρ2 =>
      cases b with
      | false => rfl
      | true =>
        simp only [Res.bindX, lcS1, if_true]
        cases te ρ2 <;> rfl
    | exc _ _ => rfl
    | bad => rfl
theorem lcRun_cons {d y : D} {r acc : List D} {ρ' : Rho} (e : lcStep g tt te vs d ρ = .ok (some y) ρ') : lcRun g tt te vs (d :: r) acc ρ = lcRun g tt te vs r (acc ++ [y]) ρ' := by
  rw [lcRun_step, e]
theorem lcRun_skip {d : D} {r acc : List D} {ρ' : Rho} (e : lcStep g tt te vs d ρ = .ok none ρ') : lcRun g tt te vs (d :: r) acc ρ = lcRun g tt te vs r acc ρ' := by
  rw [lcRun_step, e]
theorem lcRun_map {α β : Type} {e1 : α → D} {e2 : β → D} (φ : α → β) : ∀ (l : List α) (acc : List D), (∀ a ∈ l, lcStep g tt te vs (e1 a) ρ = .ok (some (e2 (φ a))) ρ) → lcRun g tt te vs (l.map e1) acc ρ = .ok (acc ++ (l.map φ).map e2) ρ
  | [], acc, _ => by rw [List.map_nil, List.map_nil, List.map_nil, List.append_nil]; rfl
  | a :: l, acc, h => by
    rw [List.map_cons, lcRun_cons (h a (List.mem_cons_self ..)), lcRun_map φ l _ (fun b hb => h b (List.mem_cons_of_mem _ hb))]
    simp only [List.map_cons, List.append_assoc, List.cons_append, List.nil_append]
theorem lcRun_filter {α β : Type} {e1 : α → D} {e2 : β → D} (p : α → Bool) (φ : α → β) : ∀ (l : List α) (acc : List D), (∀ a ∈ l, lcStep g tt te vs (e1 a) ρ = .ok (if p a = true then some (e2 (φ a)) else none) ρ) → lcRun g tt te vs (l.map e1) acc ρ = .ok (acc ++ ((l.filter p).map φ).map e2) ρ
  | [], acc, _ => by rw [List.filter_nil, List.map_nil, List.map_nil, List.map_nil, List.append_nil]; rfl
  | a :: l, acc, h => by
    have h0 := h a (List.mem_cons_self ..)
    rw [List.map_cons]
    cases q : p a with
    | true =>
      rw [q, if_pos rfl] at h0
      rw [lcRun_cons h0, lcRun_filter p φ l _ (fun b hb => h b (List.mem_cons_of_mem _ hb)), List.filter_cons_of_pos q]
      simp only [List.map_cons, List.append_assoc, List.cons_append, List.nil_append]
    | false =>
      rw [q, if_neg (by decide)] at h0
      rw [lcRun_skip h0, lcRun_filter p φ l _ (fun b hb => h b (List.mem_cons_of_mem _ hb)), List.filter_cons_of_neg (by rw [q]; decide)]
/-- with a state that changes -/
theorem lcRun_inv (I : Nat → List D → Rho → Prop) : ∀ (ds : List D) (k : Nat) (acc : List D) (ρ : Rho), I k acc ρ → (∀ i d acc ρ, ds[i]? = some d → I (k + i) acc ρ → (∃ y ρ', lcStep g tt te vs d ρ = .ok (some y) ρ' ∧ I (k + i + 1) (acc ++ [y]) ρ') ∨ ∃ ρ', lcStep g tt te vs d ρ = .ok none ρ' ∧ I (k + i + 1) acc ρ') →
    ∃ acc' ρ', lcRun g tt te vs ds acc ρ = .ok acc' ρ' ∧ I (k + ds.length) acc' ρ'
  | [], k, acc, ρ, h, _ => ⟨acc, ρ, rfl, h⟩
  | d :: ds, k, acc, ρ, h, hs => by
    have h2 := hs 0 d acc ρ rfl h
    have rest : ∀ acc2 ρ4, I (k + 1) acc2 ρ4 → ∃ acc' ρ', lcRun g tt te vs ds acc2 ρ4 = .ok acc' ρ' ∧ I (k + (d :: ds).length) acc' ρ' := fun acc2 ρ4 h4 => by
      obtain ⟨a', r', e3, h3⟩ := lcRun_inv I ds (k + 1) acc2 ρ4 h4 (fun i d' acc3 ρ3 hd hi => by
        have := hs (i + 1) d' acc3 ρ3 (by simpa using hd) (by rw [show k + (i + 1) = k + 1 + i by omega]; exact hi)
        rw [show k + (i + 1) + 1 = k + 1 + i + 1 by omega] at this
        exact this)
      exact ⟨a', r', e3, by rw [List.length_cons, show k + (ds.length + 1) = k + 1 + ds.length by omega]; exact h3⟩
    rcases h2 with ⟨y, ρ', e, h4⟩ | ⟨ρ', e, h4⟩
    · rw [lcRun_cons e]
      exact rest _ _ h4
    · rw [lcRun_skip e]
      exact rest _ _ h4
end
end G


namespace G
open PySem PySem.Spec PyProof.Rows L2

section
variable {X : Cx} {E : EW} {pos : Pos}
abbrev XP := Rho → Res (Option Int)
end
section
variable (ρ ρ1 : Rho) (i : Nat) (ta tb : XV) (tl th : XP)
end
end G


namespace G
open PySem PySem.Spec PyProof.Rows L2

section
variable {X : Cx} {cv : String → Value} {pos : Pos} {W : WX}
end
end G


namespace G
open PySem PySem.Spec PyProof.Rows L2

section
variable {P : Program} {w : World} {A : Around} {s : Shared} {E : Value → Shared → Prop}
end
section
variable {X : Cx}
end
def keyOf : D → Option (List Int)
  | .tup ds => tupInts ds
  | _ => none
def keysOf : List D → Option (List (List Int))
  | [] => some []
  | d :: ds => (keyOf d).bind fun k => (keysOf ds).map (k :: ·)
def dd {α : Type} [DecidableEq α] : List α → List α
  | [] => []
  | a :: l => if a ∈ l then dd l else a :: dd l
theorem mem_dd {α : Type} [DecidableEq α] {b : α} : ∀ {l : List α}, b ∈ dd l ↔ b ∈ l
  | [] => Iff.rfl
  | a :: l => by
    unfold dd
    split
    · rename_i h
      rw [mem_dd, List.mem_cons]
      exact ⟨.inr, fun z => z.elim (fun e => e ▸ h) id⟩
    · rw [List.mem_cons, List.mem_cons, mem_dd]
/-- the rows behind the keys -/
theorem rows_of {K : PySem.W.Frag} {F : Hp} : ∀ {xs : List V} {ds : List D} {ks : List (List Int)}, RpAll K F xs ds → keysOf ds = some ks → ∃ L : List (Addr × List Int), xs = L.map (fun p => V.ref p.1) ∧ L.map (·.2) = ks ∧ ∀ p ∈ L, F p.1 = some (.tup (p.2.map V.int))
  | _, _, _, .nil, h => by cases h; exact ⟨[], rfl, rfl, fun p hp => by cases hp⟩
  | _, _, _, .cons (d := d) (ds := ds) r t, h => by
    unfold keysOf at h
    cases q1 : keyOf d with
    | none => rw [q1] at h; cases h
    | some k =>
      cases q2 : keysOf ds with
      | none => rw [q1, q2] at h; cases h
      | some ks =>
        rw [q1, q2] at h
        cases h
        obtain ⟨L, e1, e2, e3⟩ := rows_of t q2
        unfold keyOf at q1
        split at q1
        · cases r with
          | tup hf ra =>
            rename_i a vs
            rw [tupInts_of q1] at ra
            rw [ra.ints] at hf
            refine ⟨(a, k) :: L, by rw [e1]; rfl, by rw [List.map_cons, e2], fun p hp => ?_⟩
            rcases List.mem_cons.mp hp with rfl | hp
            · exact hf
            · exact e3 p hp
        · cases q1
section
variable {X : Cx} {E : EW} {pos : Pos}
end
end G


namespace G
open PySem PySem.Spec PyProof.Rows L2

section
variable {P : Program} {w : World} {A : Around} {s : Shared} {E : Value → Shared → Prop}
end
end G


namespace G
open PySem PySem.Spec PyProof.Rows L2

section
variable {P : Program} {w : World} {A : Around} {s : Shared} {E : Value → Shared → Prop}
end
end G


namespace G
open PySem PySem.Spec PyProof.Rows L2

section
variable {X : Cx}
end
section
variable {X : Cx} {E : EW} {pos : Pos}
end
end G


namespace G
open PySem PySem.Spec PyProof.Rows L2

def flatD : D → Bool
  | .non => true
  | .bl _ => true
  | .int _ => true
  | .str _ => true
  | _ => false
def vOf : D → V
  | .bl b => .bl b
  | .int i => .int i
  | .str x => .str x
  | _ => .non
theorem vOf_is {K : PySem.W.Frag} {F : Hp} {v : V} {d : D} (r : Rp K F v d) (h : flatD d = true) : v = vOf d ∧ flatV v = true := by
  cases r with
  | non => exact ⟨rfl, rfl⟩
  | bl _ => exact ⟨rfl, rfl⟩
  | int _ => exact ⟨rfl, rfl⟩
  | str _ => exact ⟨rfl, rfl⟩
  | ty _ => cases h
  | tup _ _ => cases h
  | lst _ _ => cases h
  | fix _ _ => cases h
  | dicK _ _ _ => cases h
  | dicT _ _ _ => cases h
  | dicN _ _ _ _ => cases h
  | exn _ _ => cases h
  | inst _ _ _ _ => cases h
  | _ => cases h
theorem vOf_all {K : PySem.W.Frag} {F : Hp} : ∀ {vs : List V} {ds : List D}, RpAll K F vs ds → ds.all flatD = true → vs = ds.map vOf ∧ vs.all flatV = true
  | _, _, .nil, _ => ⟨rfl, rfl⟩
  | _, _, .cons a b, h => by
    rw [List.all_cons, Bool.and_eq_true] at h
    obtain ⟨h1, h2⟩ := vOf_is a h.1
    obtain ⟨k1, k2⟩ := vOf_all b h.2
    exact ⟨by rw [List.map_cons, ← h1, ← k1], by rw [List.all_cons, h2, k2]; rfl⟩
def dInT (x y : D) : Option D := (dItT y).bind fun ds => if flatD x = true ∧ ds.all flatD = true then some (.bl (inV (vOf x) (ds.map vOf))) else none
theorem imp_inT {K : PySem.W.Frag} : Imp2 K dInT (rIn K false) := fun F H v w x y d Q ex rx ry e o => by
  unfold dInT at e
  cases q : dItT y with
  | none => rw [q] at e; cases e
  | some ds =>
    rw [q] at e
    simp only [Option.bind_some] at e
    split at e
    · rename_i hf
      cases e
      cases ry with
      | tup hh ra =>
        cases q
        obtain ⟨e1, f1⟩ := vOf_is rx hf.1
        obtain ⟨e2, f2⟩ := vOf_all ra hf.2
        subst e1 e2
        exact ⟨_, _, rfl, .inr (SqT.of (ex _ _ hh)), f1, f2, o.here ex (.bl _)⟩
      | non => cases q
      | bl _ => cases q
      | int _ => cases q
      | str _ => cases q
      | ty _ => cases q
      | lst _ _ => cases q
      | fix _ _ => cases q
      | dicK _ _ _ => cases q
      | dicT _ _ _ => cases q
      | dicN _ _ _ _ => cases q
      | exn _ _ => cases q
      | inst _ _ _ _ => cases q
      | _ => cases q
    · cases e
def rInA (K : PySem.W.Frag) : R2 := fun x y H Q => rInD K x y H Q ∨ rIn K false x y H Q
theorem op_inA {X : Cx} (hu : X.A.units + 65 < cLine) : OpR X (compareOp .In) (rInA X.K) := by
  intro pins s σ H x y v u Q I rx ry h
  rcases h with h | h
  · exact op_inD hu pins s σ H x y v u Q I rx ry h
  · exact op_in_seq pins s σ H x y v u Q I rx ry h
section
end
theorem zeX (n : Int) : ∀ ns : List Int, inV (.int n) (ns.map V.int) = decide (n ∈ ns)
  | [] => rfl
  | m :: ns => by
    show (eqV (.int m) (.int n) || inV (.int n) (ns.map V.int)) = _
    rw [zeX n ns, show eqV (.int m) (.int n) = decide (m = n) from rfl]
    by_cases h : m = n
    · subst h; simp
    · have h2 : ¬ n = m := fun e => h e.symm
      simp [h, h2]
theorem zeY : ∀ ns : List Int, (ns.map D.int).all flatD = true
  | [] => rfl
  | _ :: ns => zeY ns
theorem zeZ : ∀ ns : List Int, (ns.map D.int).map vOf = ns.map V.int
  | [] => rfl
  | n :: ns => by rw [List.map_cons, List.map_cons, zeZ ns]; rfl
theorem zfa (n : Int) (ns : List Int) : dInT (.int n) (.tup (ns.map D.int)) = some (.bl (decide (n ∈ ns))) := by
  unfold dInT dItT
  simp only [Option.bind_some]
  rw [if_pos ⟨rfl, zeY ns⟩, zeZ]
  show some (D.bl (inV (.int n) (ns.map V.int))) = _
  rw [zeX]
end G


namespace G
open PySem PySem.Spec PyProof.Rows L2

section
variable {g : XG} {body : XS}
/-- each turn goes on where p holds, else the loop returns v -/
theorem forRun_test {α : Type} {e : α → D} {p : α → Bool} {v : D} (I : Rho → Prop) : ∀ (l : List α) (ρ : Rho), I ρ → (∀ a ∈ l, ∀ ρ, I ρ → ∃ ρ1, g (e a) ρ = some ρ1 ∧ ∃ ρ2, I ρ2 ∧ ((p a = true ∧ (body ρ1 = .nx ρ2 ∨ body ρ1 = .cnt ρ2)) ∨ (p a = false ∧ body ρ1 = .ret v ρ2))) →
    ∃ ρ', I ρ' ∧ ((l.all p = true ∧ forRun g body (l.map e) ρ = .nx ρ') ∨ (l.all p = false ∧ forRun g body (l.map e) ρ = .ret v ρ'))
  | [], ρ, h, _ => ⟨ρ, h, .inl ⟨rfl, rfl⟩⟩
  | a :: l, ρ, h, hs => by
    obtain ⟨ρ1, e1, ρ2, h2, hb⟩ := hs a (List.mem_cons_self ..) ρ h
    rcases hb with ⟨hp, hb⟩ | ⟨hp, hb⟩
    · obtain ⟨ρ', h3, h4⟩ := forRun_test (p := p) (v := v) I l ρ2 h2 fun b hb => hs b (List.mem_cons_of_mem _ hb)
      refine ⟨ρ', h3, ?_⟩
      have e3 : forRun g body ((a :: l).map e) ρ = forRun g body (l.map e) ρ2 := by
        rw [List.map_cons, zcK, e1]
        rcases hb with hb | hb
        · rw [zcL, hb, zcM]
        · rw [zcL, hb, zcN]
      rw [e3, List.all_cons, hp, Bool.true_and]
      exact h4
    · refine ⟨ρ2, h2, .inr ⟨by rw [List.all_cons, hp, Bool.false_and], ?_⟩⟩
      rw [List.map_cons, zcK, e1, zcL, hb, zcP]
end
end G


namespace G
open PySem PySem.Spec PyProof.Rows L2

section
variable {g : XG} {tt : XT} {te : XV} {vs : List Nat} {ρ : Rho}
theorem lcMap {α β : Type} {e1 : α → D} (e2 : β → D) (φ : α → β) {l : List α} (h : ∀ a ∈ l, lcStep g tt te vs (e1 a) ρ = .ok (some (e2 (φ a))) ρ) : lcRun g tt te vs (l.map e1) [] ρ = .ok ((l.map φ).map e2) ρ := lcRun_map φ l [] h
theorem lcFilt {α β : Type} {e1 : α → D} (e2 : β → D) (p : α → Bool) (φ : α → β) {l : List α} (h : ∀ a ∈ l, lcStep g tt te vs (e1 a) ρ = .ok (if p a = true then some (e2 (φ a)) else none) ρ) : lcRun g tt te vs (l.map e1) [] ρ = .ok (((l.filter p).map φ).map e2) ρ := lcRun_filter p φ l [] h
variable {body : XS}
/-- a loop over things of one kind, each turn to its end; I tells the state ahead of each turn -/
theorem for_list {α : Type} {e : α → D} (I : Nat → Rho → Prop) {l : List α} {ρ : Rho} (h0 : I 0 ρ) (hs : ∀ (i : Nat) (a : α) (ρ : Rho), l[i]? = some a → I i ρ → ∃ ρ1, g (e a) ρ = some ρ1 ∧ ∃ ρ2, (body ρ1 = .nx ρ2 ∨ body ρ1 = .cnt ρ2) ∧ I (i + 1) ρ2) : ∃ ρ', forRun g body (l.map e) ρ = .nx ρ' ∧ I l.length ρ' := by
  have := forRun_inv (g := g) (body := body) I (l.map e) 0 ρ h0 (fun i d ρ hd hI => by
    rw [List.getElem?_map] at hd
    cases q : l[i]? with
    | none => rw [q] at hd; cases hd
    | some a =>
      rw [q] at hd
      cases hd
      rw [Nat.zero_add] at hI ⊢
      exact hs i a ρ q hI)
  rw [List.length_map, Nat.zero_add] at this
  exact this
end
abbrev cells (cs : List (Int × Int)) : D := .lst (cs.map cellP)
theorem eq_cells (l m : List (Int × Int)) : eqD (.lst (l.map cellP)) (.lst (m.map cellP)) = some (decide (l = m)) := eqD_enc (α := List (Int × Int)) (by decide) l m
theorem eq_pics (L M : List (List (Int × Int))) : eqD (.lst (L.map cells)) (.lst (M.map cells)) = some (decide (L = M)) := eqD_enc (α := List (List (Int × Int))) (by decide) L M
theorem sz {α : Type} {f : α → D} {l : List α} (h : l.length ≤ 1000) : (l.map f).length ≤ sizeLine := by
  rw [List.length_map]
  exact Nat.le_trans h (by rw [sizeLine_eq]; decide)
theorem szn {n : Nat} (h : n ≤ 1000) : n ≤ sizeLine := Nat.le_trans h (by rw [sizeLine_eq]; decide)
def mn (i j : Int) : Int := if j < i then j else i
def mx (i j : Int) : Int := if j > i then j else i
def N4 : List (Int × Int) := [(-1, 0), (0, -1), (0, 1), (1, 0)]
def N6 : List (Int × Int) := [(-1, -1), (-1, 0), (0, -1), (0, 1), (1, 0), (1, 1)]
def N8 : List (Int × Int) := [(-1, -1), (-1, 0), (-1, 1), (0, -1), (0, 1), (1, -1), (1, 0), (1, 1)]
def near : Int → List (Int × Int)
  | 4 => N4
  | 6 => N6
  | _ => N8
abbrev q4 (t : Q4) : D := .tup [.int t.a, .int t.b, .int t.c, .int t.d]
def T4 : List Q4 := [⟨-1, 0, 0, -1⟩, ⟨-1, 0, 0, 1⟩, ⟨0, -1, -1, 0⟩, ⟨0, -1, 1, 0⟩, ⟨0, 1, -1, 0⟩, ⟨0, 1, 1, 0⟩, ⟨1, 0, 0, -1⟩, ⟨1, 0, 0, 1⟩]
def T6 : List Q4 := [⟨-1, 0, -1, 1⟩, ⟨-1, 0, 0, -1⟩, ⟨-1, 1, -1, 0⟩, ⟨-1, 1, 0, 1⟩, ⟨0, -1, -1, 0⟩, ⟨0, -1, 1, -1⟩, ⟨0, 1, -1, 1⟩, ⟨0, 1, 1, 0⟩, ⟨1, -1, 0, -1⟩, ⟨1, -1, 1, 0⟩, ⟨1, 0, 0, 1⟩, ⟨1, 0, 1, -1⟩]
def turns : Int → List Q4
  | 6 => T6
  | _ => T4
def sh (d p : Int × Int) : Int × Int := (p.1 + d.1, p.2 + d.2)
theorem zfb {a b : List D} (h : a.length + b.length ≤ sizeLine) : dAdd (.lst a) (.lst b) = some (.lst (a ++ b)) := if_pos h
theorem zfc {a b : List D} (h : a.length + b.length ≤ sizeLine) : dAddL (.lst a) (.lst b) = some (.lst (a ++ b)) := if_pos h
theorem sz_1 : 1 ≤ sizeLine := szn (by decide)
theorem sz_2 : 2 ≤ sizeLine := szn (by decide)
theorem sz_3 : 3 ≤ sizeLine := szn (by decide)
theorem sz_4 : 4 ≤ sizeLine := szn (by decide)
theorem sz_0 : 0 ≤ sizeLine := szn (by decide)
theorem zfd : 0 < sizeLine := by rw [sizeLine_eq]; decide
theorem zff (ds : List D) : dIsi [.lst ds, .ty "list"] = some (.bl true) := rfl
theorem zfg (ds : List D) : dIsi [.tup ds, .ty "tuple"] = some (.bl true) := rfl
theorem zfh (n : Int) : dIsi [.int n, .ty "int"] = some (.bl true) := rfl
theorem zfi (n : Int) : dIsi [.int n, .ty "bool"] = some (.bl false) := rfl
theorem zfj (b : Bool) : dIsi [.bl b, .ty "bool"] = some (.bl true) := by cases b <;> rfl
theorem zfk (ds : List D) : dList [.lst ds] = some (.lst ds) := rfl
theorem zfl (ds : List D) : dList [.tup ds] = some (.lst ds) := rfl
theorem zfm (ds : List D) : dTuple [.lst ds] = some (.tup ds) := rfl
theorem zfv (i j : Int) : dMin2 [.int i, .int j] = some (.int (mn i j)) := rfl
theorem zfw (i j : Int) : dMax2 [.int i, .int j] = some (.int (mx i j)) := rfl
theorem nc_0 : ((0 : Nat) : Int) = 0 := rfl
theorem nc_1 : ((1 : Nat) : Int) = 1 := rfl
theorem nc_2 : ((2 : Nat) : Int) = 2 := rfl
theorem nc_3 : ((3 : Nat) : Int) = 3 := rfl
theorem nc_4 : ((4 : Nat) : Int) = 4 := rfl
theorem nc_5 : ((5 : Nat) : Int) = 5 := rfl
theorem nc_6 : ((6 : Nat) : Int) = 6 := rfl
theorem nc_7 : ((7 : Nat) : Int) = 7 := rfl
theorem nc_8 : ((8 : Nat) : Int) = 8 := rfl
theorem nc_9 : ((9 : Nat) : Int) = 9 := rfl
theorem zfx : ((10 : Nat) : Int) = 10 := rfl
theorem zfy : ((11 : Nat) : Int) = 11 := rfl
theorem zfz : ((12 : Nat) : Int) = 12 := rfl
theorem zfA : ((13 : Nat) : Int) = 13 := rfl
theorem zfB : ((14 : Nat) : Int) = 14 := rfl
theorem zfC : ((15 : Nat) : Int) = 15 := rfl
theorem zfD : ((16 : Nat) : Int) = 16 := rfl
theorem zfE : ((17 : Nat) : Int) = 17 := rfl
theorem zfF : ((18 : Nat) : Int) = 18 := rfl
theorem zfG : ((19 : Nat) : Int) = 19 := rfl
theorem zfH : ((20 : Nat) : Int) = 20 := rfl
end G


set_option maxHeartbeats 4000000
namespace G
open PySem PySem.Spec PyProof.Rows L2

section
variable {α : Type} [Enc α]
def minE (x : α) (xs : List α) : α := xs.foldl (fun a y => if leE a y = true then a else y) x
def leastE : List α → Option α
  | [] => none
  | x :: xs => some (minE x xs)
variable [EncS α]
end
/-- a picture moved to least numbers 0 -/
def laid (cs : List (Int × Int)) : List (Int × Int) := match leastE (cs.map (·.1)), leastE (cs.map (·.2)) with
  | some a, some b => cs.map (sh (0 - a, 0 - b))
  | _, _ => []
abbrev Kind (k : Int) : Prop := k = 4 ∨ k = 6 ∨ k = 8
end G


set_option maxHeartbeats 4000000
namespace G
open PySem PySem.Spec PyProof.Rows L2

theorem zfK : (true == true) = true := rfl
theorem zfL : (false == false) = true := rfl
theorem zfM : (true == false) = false := rfl
theorem zfN : (false == true) = false := rfl
end G


set_option maxHeartbeats 4000000
namespace G
open PySem PySem.Spec PyProof.Rows L2

section
variable {K : PySem.W.Frag} {F H F1 H1 : Hp} {ρ ρ1 : Rho} {σ σ1 : L2.St}
theorem Go.setSlot {i : Nat} {s : Slot} {o : Option V} (h0 : i ≠ 0) (hs : ∀ d, s ≠ .own d) (hr : ∀ d, s ≠ .rd d) (r : Rel K F H ρ σ) (rv : SRel K F H s o) : Go K ρ σ F H (ρ.set i s) (σ.set i o) F H where
  rel := by
    refine ⟨r.ex, by rw [List.length_set, List.length_set]; exact r.len, fun j s' o' h1 h2 => ?_, fun j k d1 d2 p h1 h2 h3 h4 => ?_, fun j d1 p h1 h2 h3 => ?_⟩
    · rcases get_set h1 with ⟨e, rfl⟩ | ⟨hj, h1⟩ <;> rcases get_set h2 with ⟨e2, rfl⟩ | ⟨hj2, h2⟩
      · exact rv
      · exact absurd e hj2
      · exact absurd e2 hj
      · exact r.at' j s' o' h1 h2
    · rcases get_set h1 with ⟨_, q⟩ | ⟨hj, h1⟩
      · exact absurd q.symm (hs d1)
      · rcases get_set h2 with ⟨_, q⟩ | ⟨hk, h2⟩
        · exact absurd q.symm (hs d2)
        · rw [List.getElem?_set_ne hj] at h3
          rw [List.getElem?_set_ne hk] at h4
          exact r.dis j k d1 d2 p h1 h2 h3 h4
    · rcases get_set h1 with ⟨_, q⟩ | ⟨hj, h1⟩
      · exact absurd q.symm (hr d1)
      · rw [List.getElem?_set_ne hj] at h2
        exact r.rdis j d1 p h1 h2 (own_set_val hs h3)
  ex := Same.refl F
  keep := fun _ _ h1 h2 _ => ⟨h1, fun _ => h2⟩
  own := fun p h => .inl (own_set_val hs h)
  low := List.getElem?_set_ne h0
  lowO := fun d h => ⟨d, by rw [List.getElem?_set_ne h0]; exact h⟩
  rdb := fun j e h => by
    rcases get_set h with ⟨_, q⟩ | ⟨hj, h⟩
    · exact absurd q.symm (hr e)
    · exact ⟨h, List.getElem?_set_ne hj⟩
end
/-- what a class of the program that is raised must say -/
structure ExcT (K : PySem.W.Frag) (C : Addr) : Prop where
  ex : PySem.W.excIn K C [.type "ValueError", .type "Exception", .type "BaseException", .type "object"] "ValueError.__new__" = true
  kp : PySem.W.keepIn K (.ref C) = true
  sb : PySem.W.subIn K (.ref C) (.type "BaseException") = some true
  ty : PySem.W.typeIn K (.ref C) = some (.type "type")
section
variable {X : Cx} {E : EW} {fr : Bool} {cv : String → Value} {W : WX}
def xRaise (c : String) : XS := fun ρ => .exc c ρ
theorem xs_raise {x m : Str} {c : String} {C : Addr} {j : Nat} {p p2 pos pos2 : Pos} (hc : X.calm = true) (tk : Takes X W) (T : ExcT X.K C) (gC : X.mg x = some (.ref C)) (hg : Gl X x) (hcv : cv c = .ref C) (hdb : (x == ("__debug__" : Str)) = false := by decide) :
    PS X (.Raise (some (.Call (.Name x p) [.Constant (.str m) j p2] [] pos)) none pos2) (lS X.K (EWx cv W) fr (xRaise c)) :=
  ps_imp (ps_raise hc tk (pmk_own PySem.F.excBase_ValueError T.ex gC T.kp (raises_own T.sb T.ty) hg hdb)) fun C σ H h => by
    obtain ⟨F, ρ, r, p⟩ := h
    unfold PendS xRaise at p
    rw [← hcv]
    exact p σ F H (Go.refl r)
end
/-- what a class of the program that is named must say -/
structure ClsT (K : PySem.W.Frag) (C : Addr) : Prop where
  cl : PySem.W.isClsIn K C = true
  ty : PySem.W.typeIn K (.ref C) = some (.type "type")
  sf : PySem.W.subIn K (.ref C) (.ref C) = some true
section
variable {K : PySem.W.Frag} {D C : Addr} {b b' : Bool}
theorem kit_ref (c : ClsT K C) (h : PySem.W.subIn K (.ref D) (.ref C) = some b) : PySem.W.kitOne K (.ref D) (.ref C) = some b := by
  unfold PySem.W.kitOne
  by_cases e : D = C
  · subst e
    rw [c.sf] at h
    rw [if_pos (by simp)]
    exact h
  · rw [if_neg (by simpa using e)]
    unfold PySem.W.kitCls
    have h2 : ((PySem.W.clsIn K C).isSome && PySem.W.typeIn K (.ref C) == some (.type "type")) = true := by
      have : (PySem.W.clsIn K C).isSome = true := c.cl
      rw [this, c.ty]
      rfl
    simp only
    rw [if_pos h2]
    exact h
theorem kit_tyE {T : String} (hm : PySem.W.kitMeta T = true) (h : PySem.W.subIn K (.ref D) (.type T) = some b) : PySem.W.kitOne K (.ref D) (.type T) = some b := by
  unfold PySem.W.kitOne
  rw [if_neg (by simp)]
  unfold PySem.W.kitCls
  simp only
  rw [if_pos hm]
  exact h
theorem kit_nil {t : Value} : PySem.W.kitAny K t [] = some false := rfl
theorem kit_cons {t c : Value} {r : List Value} (h : PySem.W.kitOne K t c = some b) (h2 : PySem.W.kitAny K t r = some b') : PySem.W.kitAny K t (c :: r) = some (b || b') := by
  unfold PySem.W.kitAny
  rw [h]
  cases b
  · exact h2
  · rfl
theorem kit_to {x : Option Bool} (h : b = b') (e : x = some b) : x = some b' := h ▸ e
theorem exm_of {cls : Value} (c : ClsT K C) (h1 : PySem.W.subIn K (.ref C) (.type "BaseException") = some true) (h : PySem.W.subIn K cls (.ref C) = some b) : PySem.W.exmOne K cls (.ref C) = some b := by
  have e1 : (PySem.W.subIn K (.ref C) (.type "BaseException") == some true) = true := by rw [h1]; rfl
  have h2 : ((PySem.W.clsIn K C).isSome && PySem.W.typeIn K (.ref C) == some (.type "type")) = true := by
    have : (PySem.W.clsIn K C).isSome = true := c.cl
    rw [this, c.ty]
    rfl
  unfold PySem.W.exmOne
  rw [if_pos e1]
  unfold PySem.W.kitCls
  simp only
  rw [if_pos h2]
  exact h
end
/-- whether an exception of the class k is one of these -/
def isX (k : String) (l : List String) : Bool := l.any fun c => c == k || c == "CellError" || c == "ValueError"
theorem bt_ValueError : bootBuiltins "ValueError" = some (.type "ValueError") := by decide +kernel
theorem meta_ValueError : PySem.W.kitMeta "ValueError" = true := by decide +kernel
def spA (K : PySem.W.Frag) (g : DF) : Sp := fun vs H Q E => ∀ cv : String → Value, spP K cv false [false] g vs H Q E
theorem fnOk_A {P : Program} {w : World} {K : PySem.W.Frag} {mg : Str → Option Value} {base : Heap} {CX : CXT} {k : Nat} {f : Addr} {fd : FuncData} {ps : List Str} {cv : String → Value} {g : DF} (h : FnOk P w K mg base CX k f fd ps (spP K cv false [false] g)) : FnOk P w K mg base CX k f fd ps (spA K g) :=
  ⟨fun vs H Q E z => h.len vs H Q E (z cv), fun A outer s H args us vs Q E r e b rv z => h.run A outer s H args us vs Q E r e b rv (z cv)⟩
theorem law_spA {K : PySem.W.Frag} {g : DF} {H : Hp} {a : Addr} {ns : List Int} {E : XK} (hS : SqL K H a (ns.map V.int)) (h : g [.fix (ns.map D.int)] = .ok (.bl true) []) : spA K g [.ref a] H (fun v _ => v = .bl true) E := fun _ => law_sp hS h
section
variable {X : Cx} {E : EW} {pos : Pos}
/-- a number that the module holds -/
theorem xe_num {x : Str} {n : Int} (hg : Gl X x) (hm : ∃ t, X.mg x = some (.int n t)) (hd : (x == ("__debug__" : Str)) = false := by decide) : PE X (.Name x pos) (lE X.K E (xC (.int n))) := by
  obtain ⟨t, hm⟩ := hm
  exact xe_const (pe_glob (v := .int n) hg hm ⟨t, rfl⟩ hd) fun _ => .int n
end
section
variable (ρ : Rho) (i : Nat)
theorem zfO (c : String) : xRaise c ρ = .exc c ρ := rfl
end
end G


set_option maxHeartbeats 4000000
namespace G
open PySem PySem.Spec PyProof.Rows L2

section
variable {P : Program} {w : World} {A : Around} {s : Shared} {E : Value → Shared → Prop}
end
section
variable {X : Cx} {E : EW} {pos : Pos}
end
section
variable {X : Cx} {E : EW} {pos : Pos}
theorem rg_all {K : PySem.W.Frag} {F : Hp} (a b : Int) : RpAll K F (rgV a b) (rangeD a (b - a).toNat) := by
  have : rgV a b = ((List.range (b - a).toNat).map fun i => a + ((i : Nat) : Int)).map V.int := by unfold rgV; rw [List.map_map]; rfl
  rw [this, show rangeD a (b - a).toNat = ((List.range (b - a).toNat).map fun i => a + ((i : Nat) : Int)).map D.int by unfold rangeD; rw [List.map_map]; rfl]
  exact RpAll.of_ints _
end
end G


set_option maxHeartbeats 4000000
namespace G
open PySem PySem.Spec PyProof.Rows L2

def rNotInA (K : PySem.W.Frag) : R2 := fun x y H Q => rNotInD K x y H Q ∨ rIn K true x y H Q
theorem op_notInA {X : Cx} (hu : X.A.units + 65 < cLine) : OpR X (compareOp .NotIn) (rNotInA X.K) := (op_notInD hu).or op_notIn_seq
end G


set_option maxHeartbeats 4000000
namespace G
open PySem PySem.Spec PyProof.Rows L2

def kOf : D → Option Key
  | .int i => some (.inl i)
  | .str x => some (.inr x)
  | _ => none
def kTs : List D → Option (List Key)
  | [] => some []
  | d :: ds => (kOf d).bind fun k => (kTs ds).map (k :: ·)
def kTof : D → Option (List Key)
  | .tup ds => kTs ds
  | _ => none
def dKey : Key → D
  | .inl i => .int i
  | .inr x => .str x
def lk {κ : Type} [DecidableEq κ] (es : List (κ × D)) (k : κ) : Option D := (es.find? fun e => decide (e.1 = k)).map (·.2)
def pt {κ : Type} [DecidableEq κ] (es : List (κ × D)) (k : κ) (d : D) : List (κ × D) :=
  if (es.any fun e => decide (e.1 = k)) = true then es.map (fun e => if e.1 = k then (e.1, d) else e) else es ++ [(k, d)]
section
variable {K : PySem.W.Frag} {F F' H H' : Hp}
theorem kOf_rp {v : V} {x : D} {k : Key} (r : Rp K F v x) (h : kOf x = some k) : v = kV k := by
  cases r <;> first | (cases h; rfl) | cases h
theorem kTs_rp : ∀ {vs : List V} {ds : List D} {ks : List Key}, RpAll K F vs ds → kTs ds = some ks → vs = ks.map kV
  | _, _, ks, .nil, h => by cases h; rfl
  | _, _, ks, .cons (d := d) (ds := ds) a b, h => by
    unfold kTs at h
    cases q : kOf d with
    | none => rw [q] at h; cases h
    | some k =>
      rw [q] at h
      simp only [Option.bind_some] at h
      cases q2 : kTs ds with
      | none => rw [q2] at h; cases h
      | some ks' =>
        rw [q2] at h
        cases h
        rw [kOf_rp a q, kTs_rp b q2]
        rfl
theorem kTof_rp {v : V} {x : D} {k : List Key} (r : Rp K F v x) (h : kTof x = some k) : ∃ b, v = .ref b ∧ F b = some (.tup (k.map kV)) := by
  cases r <;> first | (cases h; done) | skip
  rename_i a xs ds hf ra
  have := kTs_rp ra h
  subst this
  exact ⟨_, rfl, hf⟩
/-- entries that stand for entries -/
inductive RpE {κ : Type} (K : PySem.W.Frag) (F : Hp) : List (κ × V) → List (κ × D) → Prop
  | nil : RpE K F [] []
  | cons {k : κ} {v : V} {d : D} {kvs : List (κ × V)} {es : List (κ × D)} : Rp K F v d → RpE K F kvs es → RpE K F ((k, v) :: kvs) ((k, d) :: es)
theorem RpE.of {κ : Type} : ∀ {kvs : List (κ × V)} {es : List (κ × D)}, kvs.map (·.1) = es.map (·.1) → RpAll K F (kvs.map (·.2)) (es.map (·.2)) → RpE K F kvs es
  | [], [], _, _ => .nil
  | [], _ :: _, h, _ => by cases h
  | _ :: _, [], h, _ => by cases h
  | (k, v) :: kvs, (k', d) :: es, h, r => by
    cases r with
    | cons r1 r2 =>
      rw [List.map_cons, List.map_cons] at h
      obtain ⟨e1, e2⟩ := List.cons.inj h
      have e1' : k = k' := e1
      subst e1'
      exact .cons r1 (RpE.of e2 r2)
theorem RpE.keys {κ : Type} {kvs : List (κ × V)} {es : List (κ × D)} (h : RpE K F kvs es) : kvs.map (·.1) = es.map (·.1) := by
  induction h with
  | nil => rfl
  | cons _ _ ih => rw [List.map_cons, List.map_cons, ih]
theorem RpE.vals {κ : Type} {kvs : List (κ × V)} {es : List (κ × D)} (h : RpE K F kvs es) : RpAll K F (kvs.map (·.2)) (es.map (·.2)) := by
  induction h with
  | nil => exact .nil
  | cons r _ ih => exact .cons r ih
theorem RpE.len {κ : Type} {kvs : List (κ × V)} {es : List (κ × D)} (h : RpE K F kvs es) : kvs.length = es.length := by
  have := congrArg List.length h.keys
  rwa [List.length_map, List.length_map] at this
theorem RpE.append {κ : Type} {kvs kvs' : List (κ × V)} {es es' : List (κ × D)} (h : RpE K F kvs es) (h' : RpE K F kvs' es') : RpE K F (kvs ++ kvs') (es ++ es') := by
  induction h with
  | nil => exact h'
  | cons r _ ih => exact .cons r ih
def RO (K : PySem.W.Frag) (F : Hp) : Option V → Option D → Prop
  | some v, some d => Rp K F v d
  | none, none => True
  | _, _ => False
section
variable {κ : Type} [DecidableEq κ]
theorem RpE.lk {kvs : List (κ × V)} {es : List (κ × D)} (h : RpE K F kvs es) (k : κ) : RO K F (valV kvs k) (G.lk es k) := by
  induction h with
  | nil => exact True.intro
  | @cons j v d kvs es r _ ih =>
    by_cases e : j = k
    · rw [valV_pos (p := (j, v)) e]
      unfold G.lk
      rw [List.find?_cons_of_pos (by simpa using e)]
      exact r
    · rw [valV_neg (p := (j, v)) e]
      unfold G.lk
      rw [List.find?_cons_of_neg (by simpa using e)]
      exact ih
theorem RpE.any {kvs : List (κ × V)} {es : List (κ × D)} (h : RpE K F kvs es) (k : κ) : (kvs.any fun e => decide (e.1 = k)) = es.any fun e => decide (e.1 = k) := by
  induction h with
  | nil => rfl
  | cons r _ ih => rw [List.any_cons, List.any_cons, ih]
theorem RpE.repl {kvs : List (κ × V)} {es : List (κ × D)} (h : RpE K F kvs es) (k : κ) {v : V} {d : D} (r : Rp K F v d) : RpE K F (kvs.map fun kv => if kv.1 = k then (kv.1, v) else kv) (es.map fun e => if e.1 = k then (e.1, d) else e) := by
  induction h with
  | nil => exact .nil
  | @cons j v0 d0 kvs es r0 _ ih =>
    rw [List.map_cons, List.map_cons]
    by_cases e : j = k
    · rw [if_pos e, if_pos e]; exact .cons r ih
    · rw [if_neg e, if_neg e]; exact .cons r0 ih
theorem RpE.pt {kvs : List (κ × V)} {es : List (κ × D)} (h : RpE K F kvs es) (k : κ) {v : V} {d : D} (r : Rp K F v d) : RpE K F (putK kvs k v) (G.pt es k d) := by
  unfold putK G.pt
  rw [h.any k]
  split
  · exact h.repl k r
  · exact h.append (.cons r .nil)
end
theorem RpE.mono {κ : Type} {kvs : List (κ × V)} {es : List (κ × D)} (e : Same F F') (h : RpE K F kvs es) : RpE K F' kvs es := by
  induction h with
  | nil => exact .nil
  | cons r _ ih => exact .cons (r.mono e) ih
def isDic : D → Bool
  | .dicT _ _ => true
  | .dicK _ _ => true
  | _ => false
def dGetO (x k : D) : Option (Option D) := match x with
  | .dicT _ es => (kTof k).map (lk es)
  | .dicK _ es => (kOf k).map (lk es)
  | _ => none
theorem rd_frz {z : Bool} {o : Obj} {a : Addr} {u : HO} (h : H a = some (frzIf z o u)) : Rd H a u := by
  cases z
  · exact .inl h
  · exact .inr ⟨o, h⟩
theorem dic_ra {v : V} {x : D} (e : Same F H) (r : Ra K F H v x) (h : isDic x = true) : ∃ a, v = .ref a ∧ IsD H a ∧
    ((∃ z kvs es, x = .dicT z es ∧ Rd H a (.dT kvs) ∧ RpE K F kvs es) ∨ ∃ z kvs es, x = .dicK z es ∧ Rd H a (.dK kvs) ∧ RpE K F kvs es) := by
  cases r with
  | val rp _ =>
    cases rp with
    | dicK hf hk hr =>
      have := rd_frz (e _ _ hf)
      exact ⟨_, rfl, .inl ⟨_, this⟩, .inr ⟨_, _, _, rfl, this, RpE.of hk hr⟩⟩
    | dicT hf hk hr =>
      have := rd_frz (e _ _ hf)
      exact ⟨_, rfl, .inr ⟨_, this⟩, .inl ⟨_, _, _, rfl, this, RpE.of hk hr⟩⟩
    | non => cases h
    | bl _ => cases h
    | int _ => cases h
    | str _ => cases h
    | ty _ => cases h
    | tup _ _ => cases h
    | lst _ _ => cases h
    | fix _ _ => cases h
    | dicN _ _ _ _ => cases h
    | exn _ _ => cases h
    | inst _ _ _ _ => cases h
    | _ => cases h
  | own h1 h2 ro =>
    cases ro with
    | lst _ => cases h
    | dicK hk hr =>
      have := rd_frz h2
      exact ⟨_, rfl, .inl ⟨_, this⟩, .inr ⟨_, _, _, rfl, this, RpE.of hk hr⟩⟩
    | dicT hk hr =>
      have := rd_frz h2
      exact ⟨_, rfl, .inr ⟨_, this⟩, .inl ⟨_, _, _, rfl, this, RpE.of hk hr⟩⟩
    | dicN _ _ _ => cases h
    | ins _ _ _ => cases h
    | _ => cases h
theorem dget_ra {a : Addr} {w : V} {x k : D} {r : Option D} (e : Same F H) (rx : Ra K F H (.ref a) x) (rw' : Rp K F w k) (h : dGetO x k = some r) : ∃ o, DGet H a w o ∧ RO K F o r := by
  unfold dGetO at h
  split at h
  · rename_i z es
    cases q : kTof k with
    | none => rw [q] at h; cases h
    | some ks =>
      rw [q] at h
      cases h
      obtain ⟨b, rfl, hb⟩ := kTof_rp rw' q
      obtain ⟨a', ea, _, hh⟩ := dic_ra e rx rfl
      cases ea
      rcases hh with ⟨z', kvs, es', ex, hr, he⟩ | ⟨z', kvs, es', ex, hr, he⟩
      · cases ex
        exact ⟨_, .inr ⟨kvs, ks, b, hr, rfl, e _ _ hb, rfl⟩, he.lk ks⟩
      · cases ex
  · rename_i z es
    cases q : kOf k with
    | none => rw [q] at h; cases h
    | some ks =>
      rw [q] at h
      cases h
      have := kOf_rp rw' q
      subst this
      obtain ⟨a', ea, _, hh⟩ := dic_ra e rx rfl
      cases ea
      rcases hh with ⟨z', kvs, es', ex, hr, he⟩ | ⟨z', kvs, es', ex, hr, he⟩
      · cases ex
      · cases ex
        exact ⟨_, .inl ⟨kvs, ks, hr, rfl, rfl⟩, he.lk ks⟩
  · cases h
theorem ra_of_rp {v : V} {x : D} (r : Rp K F v x) (h : isDic x = true) : Ra K F H v x := .val r (by cases x <;> first | rfl | cases h)
theorem RO.getD {o : Option V} {r : Option D} {v : V} {d : D} (h : RO K F o r) (rv : Rp K F v d) : Rp K F (o.getD v) (r.getD d) := by
  cases o <;> cases r <;> first | exact h | exact rv | exact h.elim
end
section
variable {X : Cx} {E : EW} {fr : Bool} {pos : Pos}
theorem xn_dnewT : PE X (.Dict [] [] pos) (lN X.K E (xC (.dicT false []))) := pe_imp pe_dnewT fun σ H Q h => by
  obtain ⟨F, ρ, r, p⟩ := h
  unfold Pend xC at p
  intro q hq
  exact p F _ ((Gr.newO r.ex hq).go r) q (.dT []) (r.ex.free hq) upd_same (Ro.dicT (z := false) (o := { cls := .none, data := .fields #[] }) rfl .nil) (not_own_new r hq) (.inr hq)
/-- with the dict that can be read at slot i -/
def withD {α : Type} (i : Nat) (f : D → Rho → Res α) : Rho → Res α := fun ρ => match rdD i ρ with
  | some x => if isDic x = true then f x ρ else .bad
  | none => .bad
theorem Pend.withD {α : Type} {K : PySem.W.Frag} {σ : L2.St} {F H : Hp} {ρ : Rho} {i : Nat} {f : D → Rho → Res α} {Q : α → Rho → Hp → Hp → Prop} (h : Pend K E (withD i f) ρ σ F H Q) : ∃ x, rdD i ρ = some x ∧ isDic x = true ∧ Pend K E (f x) ρ σ F H Q := by
  unfold Pend G.withD at h
  cases e : rdD i ρ with
  | none => simp only [e] at h
  | some x =>
    simp only [e] at h
    by_cases hd : isDic x = true
    · simp only [if_pos hd] at h
      exact ⟨x, rfl, hd, h⟩
    · simp only [if_neg hd] at h
def inX (x y : D) : Option Bool := match y with
  | .dicT z es => (dGetO (.dicT z es) x).map (·.isSome)
  | .dicK z es => (dGetO (.dicK z es) x).map (·.isSome)
  | .tup ds => match dInT x (.tup ds) with
    | some (.bl b) => some b
    | _ => none
  | y => inD x y
def dInX (x y : D) : Option D := (inX x y).map .bl
def dNotInX (x y : D) : Option D := (inX x y).map fun b => .bl (!b)
def rInX (K : PySem.W.Frag) : R2 := fun x y H Q => rInA K x y H Q ∨ ∃ a o, y = .ref a ∧ DGet H a x o ∧ Q (.bl o.isSome) H
def rNotInX (K : PySem.W.Frag) : R2 := fun x y H Q => rNotInA K x y H Q ∨ ∃ a o, y = .ref a ∧ DGet H a x o ∧ Q (.bl (!o.isSome)) H
theorem op_inX (hu : X.A.units + 65 < cLine) : OpR X (compareOp .In) (rInX X.K) := by
  intro pins s σ H x y v u Q I rx ry h
  rcases h with h | ⟨a, o, rfl, g, q⟩
  · exact op_inA hu pins s σ H x y v u Q I rx ry h
  · cases (show u = Value.ref a from ry)
    exact d_in (by omega) I g rx fun s3 I3 => ⟨.bl o.isSome, H, I3, rfl, q⟩
theorem op_notInX (hu : X.A.units + 65 < cLine) : OpR X (compareOp .NotIn) (rNotInX X.K) := by
  intro pins s σ H x y v u Q I rx ry h
  rcases h with h | ⟨a, o, rfl, g, q⟩
  · exact op_notInA hu pins s σ H x y v u Q I rx ry h
  · cases (show u = Value.ref a from ry)
    exact d_notIn (by omega) I g rx fun s3 I3 => ⟨.bl (!o.isSome), H, I3, rfl, q⟩
theorem RO.some_eq {K : PySem.W.Frag} {F : Hp} {o : Option V} {r : Option D} (h : RO K F o r) : o.isSome = r.isSome := by
  cases o <;> cases r <;> first | rfl | exact h.elim
theorem inX_cases {K : PySem.W.Frag} {F H : Hp} {v w : V} {x y : D} {b : Bool} (ex : Same F H) (rv : Rp K F v x) (rw' : Rp K F w y) (h : inX x y = some b) :
    (∃ a o, w = .ref a ∧ DGet H a v o ∧ b = o.isSome) ∨ (∃ ds, y = .tup ds ∧ dInT x (.tup ds) = some (.bl b)) ∨ inD x y = some b := by
  have dic : ∀ {y : D}, isDic y = true → Rp K F w y → (dGetO y x).map (·.isSome) = some b → ∃ a o, w = .ref a ∧ DGet H a v o ∧ b = o.isSome := fun {y} hd ry h => by
    cases q : dGetO y x with
    | none => rw [q] at h; cases h
    | some r =>
      rw [q] at h
      cases h
      obtain ⟨a, rfl, _, _⟩ := dic_ra ex (ra_of_rp (H := H) ry hd) hd
      obtain ⟨o, dg, ro⟩ := dget_ra ex (ra_of_rp (H := H) ry hd) rv q
      exact ⟨a, o, rfl, dg, ro.some_eq.symm⟩
  unfold inX at h
  split at h
  · exact .inl (dic rfl rw' h)
  · exact .inl (dic rfl rw' h)
  · split at h
    · rename_i e
      cases h
      exact .inr (.inl ⟨_, rfl, e⟩)
    · cases h
  · exact .inr (.inr h)
theorem imp_inX {K : PySem.W.Frag} : Imp2 K dInX (rInX K) := fun F H v w x y d Q ex rv rw' e o => by
  unfold dInX at e
  cases q : inX x y with
  | none => rw [q] at e; cases e
  | some b =>
    rw [q] at e
    cases e
    rcases inX_cases ex rv rw' q with ⟨a, ov, rfl, g, eb⟩ | ⟨ds, rfl, h⟩ | h
    · exact .inr ⟨a, ov, rfl, g, by rw [← eb]; exact o.here ex (.bl _)⟩
    · exact .inl (.inr (imp_inT F H v w x (.tup ds) (.bl b) Q ex rv rw' h o))
    · exact .inl (.inl (imp_in F H v w x y (.bl b) Q ex rv rw' (by unfold dIn; rw [h]; rfl) o))
theorem imp_notInX {K : PySem.W.Frag} : Imp2 K dNotInX (rNotInX K) := fun F H v w x y d Q ex rv rw' e o => by
  unfold dNotInX at e
  cases q : inX x y with
  | none => rw [q] at e; cases e
  | some b =>
    rw [q] at e
    cases e
    rcases inX_cases ex rv rw' q with ⟨a, ov, rfl, g, eb⟩ | ⟨ds, rfl, h⟩ | h
    · exact .inr ⟨a, ov, rfl, g, by rw [← eb]; exact o.here ex (.bl _)⟩
    · refine .inl (.inr ?_)
      unfold dInT dItT at h
      simp only [Option.bind_some] at h
      split at h
      · rename_i hf
        injection h with h
        injection h with h
        cases rw' with
        | tup hh ra =>
          obtain ⟨e1, f1⟩ := vOf_is rv hf.1
          obtain ⟨e2, f2⟩ := vOf_all ra hf.2
          subst e1 e2
          exact ⟨_, _, rfl, .inr (SqT.of (ex _ _ hh)), f1, f2, by rw [if_pos rfl, h]; exact o.here ex (.bl _)⟩
      · cases h
    · exact .inl (.inl (imp_notIn F H v w x y (.bl (!b)) Q ex rv rw' (by unfold dNotIn; rw [h]; rfl) o))
def dPutD (y k d : D) : Option D := match y with
  | .dicT false es => (kTof k).bind fun ks => if es.length < sizeLine then some (.dicT false (pt es ks d)) else none
  | .dicK false es => (kOf k).bind fun ks => if es.length < sizeLine then some (.dicK false (pt es ks d)) else none
  | _ => none
def putO (i : Nat) (ρ : Rho) (o : Option D) : Fl := match o with
  | some y => .nx (ρ.set i (.own y))
  | none => .bad
def putS (i : Nat) (k d : D) (ρ : Rho) (o : Option D) : Fl := match o with
  | some y => putO i ρ (dPutD y k d)
  | none => .bad
def putk2 (i : Nat) (d : D) : D → Rho → Fl := fun k ρ => putS i k d ρ (ownD i ρ)
def putk1 (i : Nat) (tk : XV) : D → Rho → Fl := fun d ρ => match ownD i ρ with
  | some y => if isDic y = true then (tk ρ).fl (putk2 i d) else .bad
  | none => .bad
def xDPut (i : Nat) (tk tv : XV) : XS := fun ρ => (tv ρ).fl (putk1 i tk)
theorem xs_dput {i : Nat} {x : Str} {k e : Expr} {tk te : XV} {xp sp : Pos} (hu : X.A.units + 1 < cLine) (ho : PE X (.Name x xp) (tVar i)) (hk : PE X k (lE X.K E tk)) (he : PE X e (lE X.K E te))
    (hs : swapsWith e (some (.Subscript (.Name x xp) k sp)) pos.line X.env = pure false := by rfl) : PS X (.Assign [.Subscript (.Name x xp) k sp] e pos) (lS X.K E fr (xDPut i tk te)) := ps_imp (ps_dput hu ho hk he hs) fun C σ H h => by
  obtain ⟨F, ρ, r, p⟩ := h
  refine ⟨F, ρ, r, (PendS.fl r p).mono fun d ρ1 F1 H1 g1 q v rv => ?_⟩
  unfold putk1 at q
  cases e0 : ownD i ρ1 with
  | none => unfold PendS at q; simp only [e0] at q
  | some y0 =>
    by_cases hd : isDic y0 = true
    · have q : PendS X.K E fr (fun ρ => (tk ρ).fl (putk2 i d)) ρ1 σ F1 H1 C := by
        unfold PendS at q ⊢
        simp only [e0, if_pos hd] at q
        exact q
      obtain ⟨a, o0, s0, f0, h0, ro0⟩ := g1.rel.own (ownD_of e0)
      refine ⟨.ref a, s0, F1, ρ1, g1.rel, (PendS.fl g1.rel q).mono fun kd ρ2 F2 H2 g2 q w rw1 => ?_⟩
      unfold PendS putk2 at q
      cases e1 : ownD i ρ2 with
      | none => simp only [e1, putS] at q
      | some y =>
        simp only [e1, putS] at q
        cases e2 : dPutD y kd d with
        | none => simp only [e2, putO] at q
        | some y' =>
          simp only [e2, putO] at q
          obtain ⟨b, o1, s1, f1, h1, ro1⟩ := g2.rel.own (ownD_of e1)
          rw [s0] at s1
          cases s1
          have rv2 := rv.mono g2.ex
          unfold dPutD at e2
          split at e2
          · rename_i es
            cases q1 : kTof kd with
            | none => rw [q1] at e2; cases e2
            | some ks =>
              rw [q1] at e2
              simp only [Option.bind_some] at e2
              split at e2
              · rename_i hz
                cases e2
                obtain ⟨b2, rfl, hb⟩ := kTof_rp rw1 q1
                cases ro1 with
                | @dicT _ _ kvs _ hk2 hr2 =>
                  have re := RpE.of hk2 hr2
                  have rp := re.pt ks rv2
                  refine ⟨a, _, rfl, DPut.t h1 (g2.rel.ex _ _ hb) (by rw [re.len]; exact hz), q σ F2 _ (Go.mut g2.rel (ownD_of e1) s0 f1 h1 (Ro.dicT (z := false) (o := { cls := .none, data := .fields #[] }) rp.keys rp.vals))⟩
              · cases e2
          · rename_i es
            cases q1 : kOf kd with
            | none => rw [q1] at e2; cases e2
            | some ks =>
              rw [q1] at e2
              simp only [Option.bind_some] at e2
              split at e2
              · rename_i hz
                cases e2
                have := kOf_rp rw1 q1
                subst this
                cases ro1 with
                | @dicK _ _ kvs _ hk2 hr2 =>
                  have re := RpE.of hk2 hr2
                  have rp := re.pt ks rv2
                  refine ⟨a, _, rfl, DPut.k h1 (by rw [re.len]; exact hz), q σ F2 _ (Go.mut g2.rel (ownD_of e1) s0 f1 h1 (Ro.dicK (z := false) (o := { cls := .none, data := .fields #[] }) rp.keys rp.vals))⟩
              · cases e2
          · cases e2
    · unfold PendS at q
      simp only [e0, if_neg hd] at q
end
end G


set_option maxHeartbeats 4000000
namespace G
open PySem PySem.Spec PyProof.Rows L2

def dKeysL : D → Option D
  | .dicT _ es => some (.lst (es.map fun e => .tup (e.1.map dKey)))
  | .dicK false es => some (.lst (es.map fun e => dKey e.1))
  | _ => none
theorem rp_key {K : PySem.W.Frag} {F : Hp} (k : Key) : Rp K F (kV k) (dKey k) := by
  cases k
  · exact .int _
  · exact .str _
theorem rp_keys {K : PySem.W.Frag} {F : Hp} : ∀ ks : List Key, RpAll K F (ks.map kV) (ks.map dKey)
  | [] => .nil
  | k :: ks => .cons (rp_key k) (rp_keys ks)
/-- the tuples that are keys become known -/
theorem keys_known {K : PySem.W.Frag} {F H : Hp} {kvs : List (List Key × V)} {es : List (List Key × D)} {bs : List Addr} (ex : Same F H) (hk : kvs.map (·.1) = es.map (·.1)) (ik : IsKeys H kvs bs) :
    ∃ F', Same F F' ∧ Same F' H ∧ (∀ a o, NTup o → H a = some o → F a = none → F' a = none) ∧ RpAll K F' (bs.map V.ref) (es.map fun e => .tup (e.1.map dKey)) := by
  induction ik generalizing es with
  | nil =>
    cases es with
    | nil => exact ⟨F, Same.refl F, ex, fun _ _ _ _ h => h, .nil⟩
    | cons _ _ => cases hk
  | @cons p b kvs bs hb _ ih =>
    cases es with
    | nil => cases hk
    | cons e es =>
      rw [List.map_cons, List.map_cons] at hk
      obtain ⟨e1, e2⟩ := List.cons.inj hk
      obtain ⟨F', f1, f2, f3, f4⟩ := ih e2
      have s1 : Same F' (upd F' b (.tup (p.1.map kV))) := fun c u h => by
        by_cases hc : c = b
        · subst hc
          rw [upd_same]
          have := f2 c u h
          rw [hb] at this
          exact this
        · rw [upd_ne hc]; exact h
      refine ⟨upd F' b (.tup (p.1.map kV)), f1.trans s1, fun c u h => ?_, fun c u n h1 h2 => ?_, ?_⟩
      · by_cases hc : c = b
        · subst hc; rw [upd_same] at h; rw [hb]; exact h
        · rw [upd_ne hc] at h; exact f2 c u h
      · by_cases hc : c = b
        · subst hc
          rw [hb] at h1
          cases h1
          exact absurd rfl (n _)
        · rw [upd_ne hc]; exact f3 c u n h1 h2
      · refine .cons ?_ (f4.mono s1)
        have e1' : p.1 = e.1 := e1
        show Rp K _ (V.ref b) (.tup (e.1.map dKey))
        rw [← e1']
        exact .tup upd_same (rp_keys p.1)
def rListDA (K : PySem.W.Frag) : List V → Hp → VK → Prop := fun xs H Q => (∃ d kvs, xs = [V.ref d] ∧ Rd H d (.dT kvs) ∧ ∀ p bs, H p = none → IsKeys H kvs bs → Q (.ref p) (upd H p (.lst (bs.map V.ref)))) ∨ rListD xs H Q
theorem cr_listDA {X : Cx} (hc : X.calm = true) : CallR X (.type "list") (rListDA X.K) := (call_list_dT hc).or (call_list_dK hc)
theorem ra_frz {K : PySem.W.Frag} {F H : Hp} {a : Addr} {es : List (Key × D)} (e : Same F H) (r : Ra K F H (.ref a) (.dicK false es)) : ∃ kvs, H a = some (.dK kvs) ∧ RpE K F kvs es := by
  cases r with
  | val rp _ => cases rp with | dicK hf hk hr => exact ⟨_, e _ _ hf, RpE.of hk hr⟩
  | own h1 h2 ro => cases ro with | dicK hk hr => exact ⟨_, h2, RpE.of hk hr⟩
section
variable {X : Cx} {E : EW} {fr : Bool} {pos : Pos}
theorem keysL_of {K : PySem.W.Frag} {F H : Hp} {σ : L2.St} {ρ0 ρ : Rho} {F0 H0 : Hp} {x d : D} {v : V} {Q : VK} (r0 : Rel K F0 H0 ρ0 σ) (g0 : Go K ρ0 σ F0 H0 ρ σ F H) (ra : Ra K F H v x) (hd : isDic x = true) (e : dKeysL x = some d)
    (q : ∀ F' H', Go K ρ σ F H ρ σ F' H' → ∀ p o, F' p = none → H' p = some o → Ro K F' p o d → ¬ Own ρ σ p → (Own ρ0 σ p ∨ H0 p = none) → Q (.ref p) H') : rListDA K [v] H Q := by
  have ex := g0.rel.ex
  obtain ⟨a, rfl, _, hh⟩ := dic_ra ex ra hd
  have o := outN_of r0 g0 q
  unfold dKeysL at e
  split at e
  · rename_i z es
    cases e
    rcases hh with ⟨z', kvs, es', exx, hr, he⟩ | ⟨z', kvs, es', exx, hr, he⟩
    · cases exx
      refine .inl ⟨a, kvs, rfl, hr, fun p bs hp ik => ?_⟩
      obtain ⟨F', f1, f2, f3, f4⟩ := keys_known (K := K) ex he.keys ik
      have f2' : Same F' (upd H p (.lst (bs.map V.ref))) := fun c u h => by rw [upd_ne (ne_of_none (f2 c u h) hp)]; exact f2 c u h
      exact o p (.lst (bs.map V.ref)) F' _ ⟨f1, fun c u h => by rw [upd_ne (ne_of_none h hp)]; exact h, f2', f3⟩ hp (f2.free hp) upd_same (.lst f4)
    · cases exx
  · rename_i es
    cases e
    obtain ⟨kvs, hk, he⟩ := ra_frz ex ra
    refine .inr ⟨a, kvs, rfl, hk, fun p hp => o.new ex hp (.lst ?_)⟩
    have : kvs.map (fun kv => kV kv.1) = (kvs.map (·.1)).map kV := by rw [List.map_map]; rfl
    rw [this, he.keys, List.map_map, show es.map (fun e => dKey e.1) = (es.map (·.1)).map dKey by rw [List.map_map]; rfl, ← List.map_map]
    exact rp_keys _
  · cases e
/-- of a dict that can be read at slot i -/
def keysk : D → Rho → Res D := fun y ρ => lift dKeysL y ρ
def xKeysD (i : Nat) : XV := withD i keysk
theorem xn_listD {i : Nat} {x : Str} {p xp : Pos} (hc : X.calm = true) (hg : Gl X "list") (hm : X.mg "list" = none) (ho : PE X (.Name x xp) (tVar i))
    (s1 : starEach [.Name x xp] X.env = (false, eval (.Name x xp) X.env) :: starEach [] X.env := by rfl) (b2 : (backTo pos (starEach [] X.env)).any (·.1) = false := by rfl) :
    PE X (.Call (.Name "list" p) [.Name x xp] [] pos) (lN X.K E (xKeysD i)) := pe_imp (pe_callTy (cr_listDA hc) hg hm bt_list (pa_cons ho pa_nil s1) (he := s1) (hpl := b2)) fun σ H Q h => by
  obtain ⟨F, ρ, r, p⟩ := h
  obtain ⟨y, e0, hd, p⟩ := Pend.withD p
  obtain ⟨v, s0, ra⟩ := r.rd e0
  obtain ⟨d, ed, q⟩ := Pend.lift (f := dKeysL) (x := y) p
  exact ⟨v, s0, keysL_of r (Go.refl r) ra hd ed q⟩
def extk2 (i : Nat) (d : D) : List D → XS := fun ds ρ1 => match d with
  | .lst es => if ds.length + es.length ≤ sizeLine then .nx (ρ1.set i (.own (.lst (ds ++ es)))) else .bad
  | _ => .bad
def extk (i : Nat) : D → Rho → Fl := fun d => withL i (extk2 i d)
def extk0 (i : Nat) (te : XV) : List D → XS := fun _ ρ => (te ρ).fl (extk i)
def xExtend (i : Nat) (te : XV) : XS := withL i (extk0 i te)
theorem xs_extend {i : Nat} {x : Str} {e : Expr} {te : XV} {xp apos p2 : Pos} (hN : X.N[i]? = some x) (he : PE X e (lE X.K E te))
    (hs : PE X (.Call (.Attribute (.Name x xp) "extend" apos) [e] [] p2) (tBM X.K "list" rExtend (tVar i) (tCons (lE X.K E te) tNil))) (hq : swapsWith (.Call (.Attribute (.Name x xp) "extend" apos) [e] [] p2) none pos.line X.env = pure false := by rfl) :
    PS X (.Expr (.Call (.Attribute (.Name x xp) "extend" apos) [e] [] p2) pos) (lS X.K E fr (xExtend i te)) := ps_imp (ps_expr hs hq) fun C σ H h => by
  obtain ⟨F, ρ, r, p⟩ := h
  obtain ⟨ds0, e0, p⟩ := PendS.withL p
  obtain ⟨b, xs, h1, h2, h3, h4⟩ := r.ownL e0
  refine ⟨.ref b, h1, .inl ⟨rfl, xs, SqL.of h3⟩, F, ρ, r, (PendS.fl r p).mono fun d ρ1 F1 H1 g1 q v rv => ?_⟩
  obtain ⟨ds, e1, q⟩ := PendS.withL q
  obtain ⟨b1, xs1, k1, k2, k3, k4⟩ := g1.rel.ownL e1
  rw [h1] at k1
  cases k1
  cases d with
  | lst es =>
    have q : PendS X.K E fr (fun ρ1 => if ds.length + es.length ≤ sizeLine then .nx (ρ1.set i (.own (.lst (ds ++ es)))) else .bad) ρ1 σ F1 H1 C := q
    obtain ⟨hz, q⟩ := PendS.ite q
    cases rv with
    | lst z1 z2 =>
      refine ⟨b, _, xs1, _, rfl, rfl, k3, g1.rel.ex _ _ z1, by rw [k4.length, z2.length]; exact hz, ?_⟩
      exact q σ F1 _ (Go.mut g1.rel e1 h1 k2 k3 (.lst (k4.append z2)))
  | _ => exact (show False from q).elim
end
end G


set_option maxHeartbeats 4000000
namespace G
open PySem PySem.Spec PyProof.Rows L2

theorem hu1 {k : Nat} {A : Around} (r : Room k A) : A.units + 1 < cLine := by have := r.un; omega
section
variable {κ α : Type} [DecidableEq κ]
def lkA (l : List (κ × α)) (k : κ) : Option α := (l.find? fun e => decide (e.1 = k)).map (·.2)
def ptA (l : List (κ × α)) (k : κ) (v : α) : List (κ × α) :=
  if (l.any fun e => decide (e.1 = k)) = true then l.map (fun e => if e.1 = k then (e.1, v) else e) else l ++ [(k, v)]
theorem lkA_nil (k : κ) : lkA ([] : List (κ × α)) k = none := rfl
theorem lkA_cons (j : κ) (v : α) (l : List (κ × α)) (k : κ) : lkA ((j, v) :: l) k = if j = k then some v else lkA l k := by
  unfold lkA
  by_cases e : j = k
  · rw [List.find?_cons_of_pos (by simpa using e), if_pos e]; rfl
  · rw [List.find?_cons_of_neg (by simpa using e), if_neg e]
theorem lkA_any (l : List (κ × α)) (k : κ) : (l.any fun e => decide (e.1 = k)) = (lkA l k).isSome := by
  induction l with
  | nil => rfl
  | cons p l ih =>
    obtain ⟨j, v⟩ := p
    rw [List.any_cons, lkA_cons, ih]
    by_cases e : j = k
    · simp [e]
    · simp [e]
theorem lkA_app (l m : List (κ × α)) (k : κ) : lkA (l ++ m) k = (lkA l k).or (lkA m k) := by
  induction l with
  | nil => simp [lkA_nil]
  | cons p l ih =>
    obtain ⟨j, v⟩ := p
    rw [List.cons_append, lkA_cons, lkA_cons, ih]
    by_cases e : j = k
    · rw [if_pos e, if_pos e]; rfl
    · rw [if_neg e, if_neg e]
theorem lkA_repl (l : List (κ × α)) (k : κ) (v : α) (j : κ) : lkA (l.map fun e => if e.1 = k then (e.1, v) else e) j = if j = k then (lkA l k).map (fun _ => v) else lkA l j := by
  induction l with
  | nil => by_cases e : j = k <;> simp [lkA_nil, e]
  | cons p l ih =>
    obtain ⟨i, u⟩ := p
    rw [List.map_cons]
    by_cases e : i = k
    · subst e
      rw [if_pos rfl, lkA_cons, lkA_cons, lkA_cons, ih]
      by_cases e2 : j = i
      · subst e2; simp
      · rw [if_neg (fun z => e2 z.symm), if_neg e2, if_neg e2, if_neg (fun z => e2 z.symm)]
    · rw [if_neg e, lkA_cons, lkA_cons, lkA_cons, ih]
      by_cases e2 : i = j
      · subst e2
        rw [if_pos rfl, if_neg e, if_pos rfl]
      · rw [if_neg e2, if_neg e2, if_neg e]
theorem lkA_pt (l : List (κ × α)) (k : κ) (v : α) (j : κ) : lkA (ptA l k v) j = if j = k then some v else lkA l j := by
  unfold ptA
  rw [lkA_any]
  cases h : lkA l k with
  | some u =>
    rw [if_pos (show (some u).isSome = true from rfl), lkA_repl, h]
    rfl
  | none =>
    rw [if_neg (show ¬ (none : Option α).isSome = true from fun z => nomatch z), lkA_app, lkA_cons, lkA_nil]
    by_cases e : j = k
    · subst e
      simp [h]
    · rw [if_neg e, if_neg (fun z => e z.symm)]
      cases lkA l j <;> rfl
theorem ptA_len (l : List (κ × α)) (k : κ) (v : α) : (ptA l k v).length ≤ l.length + 1 := by
  unfold ptA
  split
  · rw [List.length_map]; omega
  · rw [List.length_append]; exact Nat.le_refl _
theorem ptA_keys (l : List (κ × α)) (k : κ) (v : α) (j : κ) : j ∈ (ptA l k v).map (·.1) ↔ j = k ∨ j ∈ l.map (·.1) := by
  have key : ∀ (m : List (κ × α)), j ∈ m.map (·.1) ↔ (lkA m j).isSome = true := fun m => by
    rw [← lkA_any, List.any_eq_true]
    simp only [List.mem_map, decide_eq_true_eq]
  rw [key, key, lkA_pt]
  by_cases e : j = k
  · simp [e]
  · simp [e]
theorem mem_keys (m : List (κ × α)) (j : κ) : j ∈ m.map (·.1) ↔ (lkA m j).isSome = true := by
  rw [← lkA_any, List.any_eq_true]
  simp only [List.mem_map, decide_eq_true_eq]
theorem ptA_nodup (l : List (κ × α)) (k : κ) (v : α) (h : (l.map (·.1)).Nodup) : ((ptA l k v).map (·.1)).Nodup := by
  unfold ptA
  split
  · have : (l.map fun e => if e.1 = k then (e.1, v) else e).map (·.1) = l.map (·.1) := by
      rw [List.map_map]
      refine List.map_congr_left fun e _ => ?_
      show (if e.1 = k then (e.1, v) else e).1 = e.1
      split <;> rfl
    rw [this]; exact h
  · rename_i hn
    rw [List.map_append]
    refine List.nodup_append.mpr ⟨h, by simp, fun x hx y hy e => ?_⟩
    have hy' : y = k := by simpa using hy
    subst hy' e
    rw [lkA_any] at hn
    exact hn ((mem_keys l x).mp hx)
end
def ck (p : Int × Int) : List Key := [.inl p.1, .inl p.2]
theorem ck_inj {p q : Int × Int} : ck p = ck q ↔ p = q := by
  constructor
  · intro h
    unfold ck at h
    injection h with h1 h2
    injection h2 with h2 _
    injection h1 with h1
    injection h2 with h2
    exact Prod.ext h1 h2
  · rintro rfl; rfl
def encE {α : Type} (f : α → D) (l : List ((Int × Int) × α)) : List (List Key × D) := l.map fun e => (ck e.1, f e.2)
theorem lk_enc {α : Type} (f : α → D) (l : List ((Int × Int) × α)) (k : Int × Int) : lk (encE f l) (ck k) = (lkA l k).map f := by
  unfold encE
  induction l with
  | nil => rfl
  | cons p l ih =>
    obtain ⟨j, v⟩ := p
    rw [lkA_cons, List.map_cons]
    unfold lk
    by_cases e : j = k
    · rw [List.find?_cons_of_pos (by simp [e]), if_pos e]; rfl
    · rw [List.find?_cons_of_neg (by simpa [ck_inj] using e), if_neg e]
      exact ih
theorem pt_enc {α : Type} (f : α → D) (l : List ((Int × Int) × α)) (k : Int × Int) (v : α) : pt (encE f l) (ck k) (f v) = encE f (ptA l k v) := by
  unfold pt ptA encE
  have e1 : ((l.map fun e => (ck e.1, f e.2)).any fun e => decide (e.1 = ck k)) = l.any fun e => decide (e.1 = k) := by
    rw [List.any_map]
    congr 1
    funext e
    exact decide_eq_decide.mpr ck_inj
  rw [e1]
  split
  · rw [List.map_map, List.map_map]
    refine List.map_congr_left fun e _ => ?_
    show (if ck e.1 = ck k then (ck e.1, f v) else (ck e.1, f e.2)) = (ck (if e.1 = k then (e.1, v) else e).1, f (if e.1 = k then (e.1, v) else e).2)
    by_cases h : e.1 = k
    · rw [if_pos h, if_pos (by rw [h])]
    · rw [if_neg h, if_neg (fun z => h (ck_inj.mp z))]
  · rw [List.map_append]
    rfl
theorem encE_len {α : Type} (f : α → D) (l : List ((Int × Int) × α)) : (encE f l).length = l.length := List.length_map _
section
variable {α β : Type} (ρ ρ1 : Rho) (i : Nat) (ta tb : XV)
def withDO (f : D → Rho → Res α) (ρ : Rho) (o : Option D) : Res α := match o with
  | some x => if isDic x = true then f x ρ else .bad
  | none => .bad
theorem zgc (f : D → Rho → Res α) : withD i f ρ = withDO f ρ (rdD i ρ) := by unfold withD withDO; rfl
theorem zgd (f : D → Rho → Res α) (z : Bool) (es : List (List Key × D)) : withDO f ρ (some (.dicT z es)) = f (.dicT z es) ρ := rfl
theorem zge (f : D → Rho → Res α) (z : Bool) (es : List (Key × D)) : withDO f ρ (some (.dicK z es)) = f (.dicK z es) ρ := rfl
theorem zgq (z : Bool) (es : List (List Key × D)) (a b : Int) : dGetO (.dicT z es) (.tup [.int a, .int b]) = some (lk es (ck (a, b))) := rfl
theorem zgr (z : Bool) (es : List (Key × D)) (a : Int) : dGetO (.dicK z es) (.int a) = some (lk es (.inl a)) := rfl
theorem zgC (z : Bool) (es : List (List Key × D)) (a b : Int) : dInX (.tup [.int a, .int b]) (.dicT z es) = some (.bl (lk es (ck (a, b))).isSome) := rfl
theorem zgD (z : Bool) (es : List (List Key × D)) (a b : Int) : dNotInX (.tup [.int a, .int b]) (.dicT z es) = some (.bl (!(lk es (ck (a, b))).isSome)) := rfl
theorem zgE (x : D) (ds : List D) : dInX x (.lst ds) = (inD x (.lst ds)).map .bl := rfl
theorem zgF (x : D) (ds : List D) : dNotInX x (.lst ds) = (inD x (.lst ds)).map fun b => .bl (!b) := rfl
theorem zgG (z : Bool) (es : List (List Key × D)) (a b : Int) : inX (.tup [.int a, .int b]) (.dicT z es) = some (lk es (ck (a, b))).isSome := rfl
theorem zgH (x : D) (ds : List D) : inX x (.lst ds) = inD x (.lst ds) := rfl
theorem zgI (x y : D) : dBl dInX x y = inX x y := by unfold dBl dInX; cases inX x y <;> rfl
theorem zgJ (x y : D) : dBl dNotInX x y = (inX x y).map (!·) := by unfold dBl dNotInX; cases inX x y <;> rfl
theorem zgK : xDPut i ta tb ρ = (tb ρ).fl (putk1 i ta) := rfl
def putO1 (i : Nat) (tk : XV) (d : D) (ρ : Rho) (o : Option D) : Fl := match o with
  | some y => if isDic y = true then (tk ρ).fl (putk2 i d) else .bad
  | none => .bad
theorem zgL (d : D) : putk1 i ta d ρ = putO1 i ta d ρ (ownD i ρ) := by unfold putk1 putO1; rfl
theorem zgM (d : D) (z : Bool) (es : List (List Key × D)) : putO1 i ta d ρ (some (.dicT z es)) = (ta ρ).fl (putk2 i d) := rfl
theorem zgN (d : D) (z : Bool) (es : List (Key × D)) : putO1 i ta d ρ (some (.dicK z es)) = (ta ρ).fl (putk2 i d) := rfl
theorem zgO (d k : D) : putk2 i d k ρ = putS i k d ρ (ownD i ρ) := rfl
theorem zgP (k d y : D) : putS i k d ρ (some y) = putO i ρ (dPutD y k d) := rfl
theorem zgQ (y : D) : putO i ρ (some y) = .nx (ρ.set i (.own y)) := rfl
theorem zgR {es : List (List Key × D)} (hz : es.length < sizeLine) (a b : Int) (d : D) : dPutD (.dicT false es) (.tup [.int a, .int b]) d = some (.dicT false (pt es (ck (a, b)) d)) := by
  show (if es.length < sizeLine then some (D.dicT false (pt es (ck (a, b)) d)) else none) = _
  rw [if_pos hz]
theorem zgS : xKeysD i ρ = withD i keysk ρ := rfl
theorem zgT (y : D) : keysk y ρ = liftO (dKeysL y) ρ := rfl
theorem zgW (z : Bool) (es : List (List Key × D)) : dKeysL (.dicT z es) = some (.lst (es.map fun e => .tup (e.1.map dKey))) := rfl
theorem zgX : xExtend i ta ρ = withL i (extk0 i ta) ρ := rfl
theorem zgY (ds : List D) : extk0 i ta ds ρ = (ta ρ).fl (extk i) := rfl
theorem zgZ (d : D) : extk i d ρ = withL i (extk2 i d) ρ := rfl
theorem zha (ds es : List D) (hz : ds.length + es.length ≤ sizeLine) : extk2 i (.lst es) ds ρ = .nx (ρ.set i (.own (.lst (ds ++ es)))) := if_pos hz
theorem zhi (a b c : D) : lk [((.inl 4 : Key), a), (.inl 6, b), (.inl 8, c)] (.inl 4) = some a := rfl
theorem zhj (a b c : D) : lk [((.inl 4 : Key), a), (.inl 6, b), (.inl 8, c)] (.inl 6) = some b := rfl
theorem zhk (a b c : D) : lk [((.inl 4 : Key), a), (.inl 6, b), (.inl 8, c)] (.inl 8) = some c := rfl
end
theorem zhn (n : Int) (ns : List Int) : dInX (.int n) (.tup (ns.map D.int)) = some (.bl (decide (n ∈ ns))) := by
  unfold dInX inX
  simp only
  rw [zfa]
  rfl
theorem zho (n : Int) (ns : List Int) : dNotInX (.int n) (.tup (ns.map D.int)) = some (.bl (!decide (n ∈ ns))) := by
  unfold dNotInX inX
  simp only
  rw [zfa]
  rfl
end G


set_option maxHeartbeats 4000000
namespace G
open PySem PySem.Spec PyProof.Rows L2

abbrev ruleD (k : Int) (bs ss : List Int) : D := .tup [.int k, .tup (bs.map D.int), .tup (ss.map D.int)]
def upN (n : Nat) : List Int := (List.range n).map fun i => ((i : Nat) : Int)
theorem upN_len (n : Nat) : (upN n).length = n := by unfold upN; rw [List.length_map, List.length_range]
theorem mem_upN {n : Nat} {x : Int} : x ∈ upN n ↔ 0 ≤ x ∧ x < n := by
  unfold upN
  rw [List.mem_map]
  constructor
  · rintro ⟨i, hi, rfl⟩
    have := List.mem_range.mp hi
    omega
  · rintro ⟨h1, h2⟩
    exact ⟨x.toNat, List.mem_range.mpr (by omega), by omega⟩
theorem upN_lt (n : Nat) : (upN n).Pairwise (· < ·) := by
  unfold upN
  exact List.pairwise_map.mpr (List.Pairwise.imp (fun {a b} (h : a < b) => by omega) List.pairwise_lt_range)
noncomputable def pb_comes : XS := (xSeq (xIfS (xTest (xVar 1))
    (xRet (xOp2 dInX (xVar 2) (xOp2 dIx (xVar 0) (xC (.int 2)))))
    xNext)
    (xRet (xOp2 dInX (xVar 2) (xOp2 dIx (xVar 0) (xC (.int 1))))))
noncomputable def p_comes : DF := runP [false, false, false] 3 false pb_comes
end G


set_option maxHeartbeats 4000000
namespace G
open PySem PySem.Spec PyProof.Rows L2
local macro_rules | `(tactic| simp! [$ls,*] $[$loc:location]?) => `(tactic| simp only [zaa, zab, zac, zad, zae, zaf, zag, zah, zai, zaj, zak, zal, zam, zan, zao, zap, zaq, zar, zas, zat, zau, zav, zaw, zax, zay, zaz, zaA, zaB, zaC, zaD, zaE, zaF, zaG, zaH, zaI, zaJ, zaK, zaL, zaM, zaN, zaO, zaP, zaQ, zaR, zaS, zaT, zaU, zaV, zaW, zaX, zaY, zaZ, zba, zbb, zbc, zbd, zbe, zbf, zbg, zbh, zbi, zbj, zbk, zbl, zbm, zbn, zbo, zbp, zbq, zbr, zbs, zbt, zbu, zbv, zbw, zbx, zby, zbz, zbA, zbB, zbC, zbD, zbE, zbF, zbG, zbH, zbI, zbJ, zbK, zbL, zbM, zbN, zbO, zbP, zbQ, zbR, zbS, zbT, zbU, zbV, zbW, zbX, zbY, zbZ, zca, zcb, zcc, zcd, zce, zcf, zcg, zch, zci, zcj, zck, zcl, zcm, zcn, zco, zcp, zcq, zcr, zcs, zct, zcu, zcv, zcw, zcx, zcy, zcz, zcA, zcB, zcC, zcD, zcE, zcF, zcG, zcH, zcI, zcJ, zcK, zcL, zcM, zcN, zcO, zcP, zcQ, zcR, zcS, zcT, zcU, zcV, zcW, zcX, zcY, zcZ, zda, zdb, zdc, zdd, zde, zdf, zdg, zdh, zdi, zdj, zdk, zdl, zdm, zdn, zdo, zdp, zdq, zdr, zds, zdt, zdu, zdv, zdw, zdx, zdy, zdz, zdA, zdB, zdC, zdD, zdE, zdF, zdG, zdH, zdI, zdJ, zdK, zdL, zdM, zdN, zdO, zdP, zdQ, zdR, zdS, zdT, zdU, zdV, G.of_f, G.of_t, zdW, zdX, zdY, zdZ, zea, zeb, zec, zed, zee, zef, zeg, zeh, zei, zej, zek, zel, zem, zen, zeo, zep, zeq, zer, zes, zet, zeu, zev, zew, zex, zey, zez, zeA, zeB, zeC, zeD, zeE, zeX, zeY, zeZ, zfa, zfb, zfc, G.sz_1, G.sz_2, G.sz_3, G.sz_4, G.sz_0, zfd, zff, zfg, zfh, zfi, zfj, zfk, zfl, zfm, zfv, zfw, G.nc_0, G.nc_1, G.nc_2, G.nc_3, G.nc_4, G.nc_5, G.nc_6, G.nc_7, G.nc_8, G.nc_9, zfx, zfy, zfz, zfA, zfB, zfC, zfD, zfE, zfF, zfG, zfH, zfK, zfL, zfM, zfN, zfO, zgc, zgd, zge, zgq, zgr, zgC, zgD, zgE, zgF, zgG, zgH, zgI, zgJ, zgK, zgL, zgM, zgN, zgO, zgP, zgQ, zgR, zgS, zgT, zgW, zgX, zgY, zgZ, zha, zhi, zhj, zhk, zhn, zho, List.getElem?_cons_zero, List.getElem?_cons_succ, List.set_cons_zero, List.set_cons_succ, G.atI_0, G.atI_1, G.atI_2, G.atI_3, Option.map_some, Option.bind_some, G.eqD_int, G.eqD_cell, G.eqD_bl, List.length_cons, List.length_nil, List.getD_cons_zero, List.getD_cons_succ, Bool.and_true, Bool.and_self, decide_true, decide_false, Bool.not_true, Bool.not_false, List.append_nil, List.nil_append, List.cons_append, if_true, if_false, Bool.false_eq_true, reduceIte, Int.reduceLT, Int.reduceLE, Int.reduceToNat, Int.reducePow, Int.reduceNeg, Int.reduceAdd, Int.reduceSub, Int.reduceMul, Nat.reduceAdd, Int.reduceEq, List.replicate, Nat.reduceSub, and_self, and_true, true_and, $ls,*] $[$loc]?)

theorem take_snoc {α : Type} {l : List α} {i : Nat} {a : α} (h : l[i]? = some a) : l.take (i + 1) = l.take i ++ [a] := by
  rw [List.take_add_one, h]
  rfl
theorem szBl {n : Nat} (h : n ≤ 20000) : n < sizeLine := Nat.lt_of_le_of_lt h (by rw [sizeLine_eq]; decide)
def rowL (h : Nat) (x : Int) : List (Int × Int) := (upN h).map fun y => (x, y)
def ringL (w h : Nat) : List (Int × Int) := (upN w).flatMap (rowL h)
theorem rowL_len (h : Nat) (x : Int) : (rowL h x).length = h := by unfold rowL; rw [List.length_map, upN_len]
theorem flat_len {α β : Type} (f : α → List β) (n : Nat) (l : List α) (hf : ∀ a, (f a).length = n) : (l.flatMap f).length = l.length * n := by
  induction l with
  | nil => simp
  | cons a l ih => rw [List.flatMap_cons, List.length_append, ih, hf, List.length_cons, Nat.succ_mul]; omega
theorem ringL_len (w h : Nat) : (ringL w h).length = w * h := by unfold ringL; rw [flat_len _ h _ (rowL_len h), upN_len]
theorem mem_ringL {w h : Nat} {p : Int × Int} : p ∈ ringL w h ↔ (0 ≤ p.1 ∧ p.1 < w) ∧ 0 ≤ p.2 ∧ p.2 < h := by
  unfold ringL rowL
  rw [List.mem_flatMap]
  constructor
  · rintro ⟨x, hx, hp⟩
    obtain ⟨y, hy, rfl⟩ := List.mem_map.mp hp
    exact ⟨mem_upN.mp hx, mem_upN.mp hy⟩
  · rintro ⟨hx, hy⟩
    exact ⟨p.1, mem_upN.mpr hx, List.mem_map.mpr ⟨p.2, mem_upN.mpr hy, rfl⟩⟩
theorem ringL_lt (w h : Nat) : (ringL w h).Pairwise fun p q => p.1 < q.1 ∨ p.1 = q.1 ∧ p.2 < q.2 := by
  unfold ringL rowL
  rw [List.pairwise_flatMap]
  refine ⟨fun x _ => List.pairwise_map.mpr ((upN_lt h).imp fun z => .inr ⟨rfl, z⟩), (upN_lt w).imp fun {a b} z p hp q hq => ?_⟩
  obtain ⟨_, _, rfl⟩ := List.mem_map.mp hp
  obtain ⟨_, _, rfl⟩ := List.mem_map.mp hq
  exact .inl z
theorem sort_lt {l : List (Int × Int)} (h : l.Pairwise fun p q => p.1 < q.1 ∨ p.1 = q.1 ∧ p.2 < q.2) : sortE l = l :=
  sortE_of_pw (h.imp fun {p q} z => by rw [leE_pair, decide_eq_true_eq]; omega)
/-- where a step leads on the ring -/
def onR (w h : Nat) (p : Int × Int) : Int × Int := (p.1 % w, p.2 % h)
/-- the steps of a kind, as the laws tell them -/
def S4 : List (Int × Int) := [(0, -1), (0, 1), (-1, 0), (1, 0)]
def S6 : List (Int × Int) := S4 ++ [(-1, -1), (1, 1)]
def S8 : List (Int × Int) := S6 ++ [(-1, 1), (1, -1)]
def imgs (w h : Nat) (k : Int) (live : List (Int × Int)) : List (Int × Int) := live.flatMap fun p => (near k).map fun d => onR w h (sh d p)
def cntT (l : List (Int × Int)) : List ((Int × Int) × Int) := l.foldl (fun T c => ptA T c ((lkA T c).getD 0 + 1)) []
def allT (l : List (Int × Int)) : List ((Int × Int) × Bool) := l.foldl (fun T c => ptA T c true) []
theorem allT_snoc (l : List (Int × Int)) (c : Int × Int) : allT (l ++ [c]) = ptA (allT l) c true := by
  unfold allT
  rw [List.foldl_append]
  rfl
theorem allT_lk (l : List (Int × Int)) (c : Int × Int) : (lkA (allT l) c).isSome = decide (c ∈ l) := by
  unfold allT
  suffices ∀ (l : List (Int × Int)) (T : List ((Int × Int) × Bool)), (lkA (l.foldl (fun T c => ptA T c true) T) c).isSome = ((lkA T c).isSome || decide (c ∈ l)) by
    rw [this, lkA_nil]
    simp
  intro l
  induction l with
  | nil => intro T; simp
  | cons a l ih =>
    intro T
    rw [List.foldl_cons, ih, lkA_pt]
    by_cases e : c = a
    · subst e
      simp
    · rw [if_neg e]
      simp [e]
theorem allT_len (l : List (Int × Int)) : (allT l).length ≤ l.length := by
  unfold allT
  suffices ∀ (l : List (Int × Int)) (T : List ((Int × Int) × Bool)), (l.foldl (fun T c => ptA T c true) T).length ≤ T.length + l.length by
    have := this l []
    simpa using this
  intro l
  induction l with
  | nil => intro T; exact Nat.le_refl _
  | cons a l ih =>
    intro T
    have h1 := ih (ptA T a true)
    have h2 := ptA_len T a true
    rw [List.foldl_cons, List.length_cons]
    omega
theorem pt_int (T : List ((Int × Int) × Int)) (k : Int × Int) (v : Int) : pt (encE D.int T) (ck k) (.int v) = encE D.int (ptA T k v) := pt_enc D.int T k v
theorem pt_bl (T : List ((Int × Int) × Bool)) (k : Int × Int) (v : Bool) : pt (encE D.bl T) (ck k) (.bl v) = encE D.bl (ptA T k v) := pt_enc D.bl T k v
theorem lk_some {α : Type} (f : α → D) (T : List ((Int × Int) × α)) (k : Int × Int) : (lk (encE f T) (ck k)).isSome = (lkA T k).isSome := by
  rw [lk_enc]
  cases lkA T k <;> rfl
theorem comes_is (k n : Int) (bs ss : List Int) (b : Bool) : p_comes [ruleD k bs ss, .bl b, .int n] = .ok (.bl (decide (n ∈ if b = true then ss else bs))) [] := by
  unfold p_comes pb_comes
  cases b <;> simp! [ruleD, zhn]
end G


set_option maxHeartbeats 4000000
namespace G
open PySem PySem.Spec PyProof.Rows L2

/-- a picture on the ring, its cells in their order -/
def OnRing (w h : Nat) (l : List (Int × Int)) : Prop := (l.Pairwise fun p q => p.1 < q.1 ∨ p.1 = q.1 ∧ p.2 < q.2) ∧ ∀ p ∈ l, p ∈ ringL w h
theorem OnRing.nodup {w h : Nat} {l : List (Int × Int)} (H : OnRing w h l) : l.Nodup := H.1.imp fun {p q} z e => by subst e; omega
theorem OnRing.sort {w h : Nat} {l : List (Int × Int)} (H : OnRing w h l) : sortE l = l := sort_lt H.1
theorem OnRing.sub {w h : Nat} {l m : List (Int × Int)} (H : OnRing w h l) (s : m.Sublist l) : OnRing w h m := ⟨H.1.sublist s, fun p hp => H.2 p (s.subset hp)⟩
theorem OnRing.ring (w h : Nat) : OnRing w h (ringL w h) := ⟨ringL_lt w h, fun _ z => z⟩
theorem nodup_len {l m : List (Int × Int)} (hl : l.Nodup) (h : ∀ p ∈ l, p ∈ m) : l.length ≤ m.length := by
  induction l generalizing m with
  | nil => exact Nat.zero_le _
  | cons a l ih =>
    have ha := h a (by simp)
    obtain ⟨h1, h2⟩ := List.nodup_cons.mp hl
    have := ih h2 (m := m.erase a) fun p hp => (List.mem_erase_of_ne (fun e => h1 (by rw [← e]; exact hp))).mpr (h p (by simp [hp]))
    rw [List.length_erase_of_mem ha] at this
    have hp := List.length_pos_of_mem ha
    rw [List.length_cons]
    omega
theorem OnRing.len {w h : Nat} {l : List (Int × Int)} (H : OnRing w h l) (hw : 3 ≤ w ∧ w ≤ 40) (hh : 3 ≤ h ∧ h ≤ 40) : l.length ≤ 1600 := by
  have h1 := nodup_len H.nodup H.2
  rw [ringL_len] at h1
  have : w * h ≤ 40 * 40 := Nat.mul_le_mul hw.2 hh.2
  omega
end G


set_option maxHeartbeats 4000000
namespace G
open PySem PySem.Spec PyProof.Rows L2

theorem OnRing.ext {w h : Nat} {l m : List (Int × Int)} (hl : OnRing w h l) (hm : OnRing w h m) (e : ∀ p, p ∈ l ↔ p ∈ m) : l = m := by
  have p : l.Perm m := (List.perm_ext_iff_of_nodup hl.nodup hm.nodup).mpr e
  have := sortE_cong p
  rwa [hl.sort, hm.sort] at this
end G


set_option maxHeartbeats 4000000
namespace G
open PySem PySem.Spec PyProof.Rows L2

end G


set_option maxHeartbeats 4000000
namespace G
open PySem PySem.Spec PyProof.Rows L2

section
variable {P : Program} {w : World} {A : Around} {E : Value → Shared → Prop} {s : Shared}
variable {a : Addr} {L : List (Addr × List Int)} {es : Array (Int × Value)} {ep : Nat} {t : SetTable}
end
end G


set_option maxHeartbeats 4000000
namespace G
open PySem PySem.Spec PyProof.Rows L2

theorem len_sub {α : Type} [DecidableEq α] : ∀ {l m : List α}, l.Nodup → (∀ x ∈ l, x ∈ m) → l.length ≤ m.length
  | [], _, _, _ => Nat.zero_le _
  | a :: l, m, hn, h => by
    have hn2 := List.nodup_cons.mp hn
    have ha := h a (List.mem_cons_self ..)
    have := len_sub (l := l) (m := m.erase a) hn2.2 fun x hx => (List.mem_erase_of_ne (fun e => by subst e; exact hn2.1 hx)).mpr (h x (List.mem_cons_of_mem _ hx))
    rw [List.length_erase_of_mem ha] at this
    have hp : 0 < m.length := List.length_pos_of_mem ha
    rw [List.length_cons]
    omega
section
variable {P : Program} {w : World} {A : Around} {E : Value → Shared → Prop} {s : Shared}
variable {a : Addr} {L : List (Addr × List Int)} {es : Array (Int × Value)} {ep : Nat} {t : SetTable}
end
end G


set_option maxHeartbeats 4000000
namespace G
open PySem PySem.Spec PyProof.Rows L2

section
variable {P : Program} {w : World} {A : Around} {E : Value → Shared → Prop} {s : Shared}
end
end G


set_option maxHeartbeats 4000000
namespace G
open PySem PySem.Spec PyProof.Rows L2

section
variable {P : Program} {w : World} {A : Around} {E : Value → Shared → Prop} {s : Shared}
end
section
variable {X : Cx} {E : EW} {pos : Pos}
end
def ddS (cs : List (Int × Int)) : List (Int × Int) := sortE (dd cs)
def k2 (p : Int × Int) : List Int := [p.1, p.2]
theorem mem_ddS {p : Int × Int} {cs : List (Int × Int)} : p ∈ ddS cs ↔ p ∈ cs := by
  unfold ddS
  rw [mem_sortE, mem_dd]
end G


set_option maxHeartbeats 4000000
namespace G
open PySem PySem.Spec PyProof.Rows L2

def Lt2 (p q : Int × Int) : Prop := p.1 < q.1 ∨ p.1 = q.1 ∧ p.2 < q.2
/-- a picture: its cells in their order, each once -/
def Pic (l : List (Int × Int)) : Prop := l.Pairwise Lt2
theorem Pic.nodup {l : List (Int × Int)} (h : Pic l) : l.Nodup := h.imp fun {p q} z e => by
  subst e
  unfold Lt2 at z
  omega
theorem Pic.sort {l : List (Int × Int)} (h : Pic l) : sortE l = l := sort_lt h
theorem Pic.ext {l m : List (Int × Int)} (hl : Pic l) (hm : Pic m) (e : ∀ p, p ∈ l ↔ p ∈ m) : l = m := by
  have := sortE_cong ((List.perm_ext_iff_of_nodup hl.nodup hm.nodup).mpr e)
  rwa [hl.sort, hm.sort] at this
theorem Pic.sub {l m : List (Int × Int)} (h : Pic l) (s : m.Sublist l) : Pic m := List.Pairwise.sublist s h
def imgsP (k : Int) (live : List (Int × Int)) : List (Int × Int) := live.flatMap fun p => (near k).map fun d => sh d p
def livesP (k : Int) (live : List (Int × Int)) (c : Int × Int) : Nat := live.countP fun p => decide ((c.1 - p.1, c.2 - p.2) ∈ near k)
def cond (k : Int) (bs ss : List Int) (live : List (Int × Int)) (c : Int × Int) : Bool := decide (((livesP k live c : Nat) : Int) ∈ if c ∈ live then ss else bs)
/-- the next turn in the plane -/
def nextP (k : Int) (bs ss : List Int) (live : List (Int × Int)) : List (Int × Int) := (ddS ((cntT (imgsP k live)).map (·.1) ++ live)).filter (cond k bs ss live)
theorem cntT_keys (l : List (Int × Int)) (c : Int × Int) : c ∈ (cntT l).map (·.1) ↔ c ∈ l := by
  unfold cntT
  suffices ∀ (l : List (Int × Int)) (T : List ((Int × Int) × Int)), c ∈ (l.foldl (fun T c => ptA T c ((lkA T c).getD 0 + 1)) T).map (·.1) ↔ c ∈ T.map (·.1) ∨ c ∈ l by
    rw [this]
    simp
  intro l
  induction l with
  | nil => intro T; simp
  | cons a l ih =>
    intro T
    rw [List.foldl_cons, ih, ptA_keys, List.mem_cons]
    constructor
    · rintro ((h | h) | h)
      · exact .inr (.inl h)
      · exact .inl h
      · exact .inr (.inr h)
    · rintro (h | h | h)
      · exact .inl (.inr h)
      · exact .inl (.inl h)
      · exact .inr h
def afterP (k : Int) (bs ss : List Int) (live : List (Int × Int)) : Nat → List (Int × Int)
  | 0 => live
  | n + 1 => nextP k bs ss (afterP k bs ss live n)
def Bx (l t : Int) (w h : Nat) (live : List (Int × Int)) : Prop := ∀ p ∈ live, (l ≤ p.1 ∧ p.1 < l + w) ∧ t ≤ p.2 ∧ p.2 < t + h
theorem Bx.len {l t : Int} {w h : Nat} {live : List (Int × Int)} (b : Bx l t w h live) (hn : live.Nodup) : live.length ≤ w * h := by
  have nd : (live.map (sh (-l, -t))).Nodup := List.pairwise_map.mpr (hn.imp fun {p q} z e => z (by
    unfold sh at e
    injection e with e1 e2
    apply Prod.ext <;> omega))
  have := nodup_len nd (m := ringL w h) fun p hp => by
    obtain ⟨q, hq, rfl⟩ := List.mem_map.mp hp
    obtain ⟨⟨h1, h2⟩, h3, h4⟩ := b q hq
    refine mem_ringL.mpr ⟨⟨?_, ?_⟩, ?_, ?_⟩ <;> (unfold sh; simp only; omega)
  rwa [List.length_map, ringL_len] at this
theorem near_small {k : Int} {d : Int × Int} (h : d ∈ near k) : (-1 ≤ d.1 ∧ d.1 ≤ 1) ∧ -1 ≤ d.2 ∧ d.2 ≤ 1 := by
  have key : ∀ d ∈ N8, (-1 ≤ d.1 ∧ d.1 ≤ 1) ∧ -1 ≤ d.2 ∧ d.2 ≤ 1 := by decide
  have k4 : ∀ d ∈ N4, d ∈ N8 := by decide
  have k6 : ∀ d ∈ N6, d ∈ N8 := by decide
  unfold near at h
  split at h
  · exact key d (k4 d h)
  · exact key d (k6 d h)
  · exact key d h
theorem Bx.imgs {l t : Int} {w h : Nat} {live : List (Int × Int)} (b : Bx l t w h live) (k : Int) : Bx (l - 1) (t - 1) (w + 2) (h + 2) (imgsP k live) := fun c hc => by
  unfold imgsP at hc
  obtain ⟨p, hp, hc⟩ := List.mem_flatMap.mp hc
  obtain ⟨d, hd, rfl⟩ := List.mem_map.mp hc
  obtain ⟨⟨h1, h2⟩, h3, h4⟩ := b p hp
  obtain ⟨⟨g1, g2⟩, g3, g4⟩ := near_small hd
  unfold sh
  simp only
  omega
theorem Bx.next {l t : Int} {w h : Nat} {live : List (Int × Int)} (b : Bx l t w h live) (k : Int) (bs ss : List Int) : Bx (l - 1) (t - 1) (w + 2) (h + 2) (nextP k bs ss live) := fun c hc => by
  have hm := (List.mem_filter.mp hc).1
  rw [mem_ddS, List.mem_append, cntT_keys] at hm
  rcases hm with hm | hm
  · exact b.imgs k c hm
  · obtain ⟨⟨h1, h2⟩, h3, h4⟩ := b c hm
    omega
theorem Bx.after {l t : Int} {w h : Nat} {live : List (Int × Int)} (b : Bx l t w h live) (k : Int) (bs ss : List Int) : ∀ n : Nat, Bx (l - n) (t - n) (w + 2 * n) (h + 2 * n) (afterP k bs ss live n)
  | 0 => by
    intro c hc
    obtain ⟨⟨h1, h2⟩, h3, h4⟩ := b c hc
    omega
  | n + 1 => by
    have := (b.after k bs ss n).next k bs ss
    intro c hc
    obtain ⟨⟨h1, h2⟩, h3, h4⟩ := this c hc
    omega
theorem near_or (k : Int) : (near k = N6 ∧ turns k = T6) ∨ ((near k = N4 ∨ near k = N8) ∧ turns k = T4) := by
  by_cases h4 : k = 4
  · subst h4
    exact .inr ⟨.inl rfl, rfl⟩
  · by_cases h6 : k = 6
    · subst h6
      exact .inl ⟨rfl, rfl⟩
    · refine .inr ⟨.inr ?_, ?_⟩
      · unfold near
        split
        · exact (h4 rfl).elim
        · exact (h6 rfl).elim
        · rfl
      · unfold turns
        split
        · exact (h6 rfl).elim
        · rfl
theorem keys_enc (T : List ((Int × Int) × Int)) : (encE D.int T).map (fun e => D.tup (e.1.map dKey)) = (T.map (·.1)).map cellP := by
  unfold encE
  rw [List.map_map, List.map_map]
  rfl
end G


set_option maxHeartbeats 4000000
namespace G
open PySem PySem.Spec PyProof.Rows L2

end G


set_option maxHeartbeats 4000000
namespace G
open PySem PySem.Spec PyProof.Rows L2

theorem keys_encB (T : List ((Int × Int) × Bool)) : (encE D.bl T).map (fun e => D.tup (e.1.map dKey)) = (T.map (·.1)).map cellP := by
  unfold encE
  rw [List.map_map, List.map_map]
  rfl
end G


set_option maxHeartbeats 4000000
namespace G
open PySem PySem.Spec PyProof.Rows L2

def tFrz (t : TS) : TS := fun C σ H => t C σ H ∨ ∃ d u, H d = some u ∧ Mut (some u) ∧ ∀ od, t C σ (upd H d (.frz od u))
theorem ps_frz {X : Cx} {st : Stmt} {t : TS} (h : PS X st t) : PS X st (tFrz t) := by
  refine ⟨fun pins s σ H D I hw => ?_⟩
  rcases hw with hw | ⟨d, u, hd, mu, hw⟩
  · exact h.run pins s σ _ _ I hw
  · obtain ⟨od, I1⟩ := I.lock hd mu
    exact h.run pins s σ _ _ I1 (hw od)
/-- the slots once the dict at i is locked -/
def frzR (i : Nat) (ρ : Rho) : Option Rho := match ownD i ρ with
  | some (.dicT false es) => some (ρ.set i (.own (.dicT true es)))
  | some (.dicK false es) => some (ρ.set i (.own (.dicK true es)))
  | some (.dicT true _) => some ρ
  | some (.dicK true _) => some ρ
  | _ => none
def frzS (i : Nat) (t : XS) : XS := fun ρ => match frzR i ρ with
  | some ρ1 => t ρ1
  | none => .bad
section
variable {X : Cx} {E : EW} {fr : Bool} {pos : Pos}
theorem frz_of {K : PySem.W.Frag} {i : Nat} {ρ ρ1 : Rho} {σ : L2.St} {F H : Hp} (r : Rel K F H ρ σ) (e : frzR i ρ = some ρ1) :
    ρ1 = ρ ∨ ∃ d u, H d = some u ∧ Mut (some u) ∧ ∀ od, Go K ρ σ F H ρ1 σ F (upd H d (.frz od u)) := by
  unfold frzR at e
  split at e
  · rename_i es q
    cases e
    obtain ⟨p, o, s0, f0, h0, ro⟩ := r.own (ownD_of q)
    cases ro with
    | @dicT _ _ kvs _ hk hr => exact .inr ⟨p, _, h0, trivial, fun od => Go.mut r (ownD_of q) s0 f0 h0 (Ro.dicT (z := true) (o := od) hk hr)⟩
  · rename_i es q
    cases e
    obtain ⟨p, o, s0, f0, h0, ro⟩ := r.own (ownD_of q)
    cases ro with
    | @dicK _ _ kvs _ hk hr => exact .inr ⟨p, _, h0, trivial, fun od => Go.mut r (ownD_of q) s0 f0 h0 (Ro.dicK (z := true) (o := od) hk hr)⟩
  · cases e; exact .inl rfl
  · cases e; exact .inl rfl
  · cases e
theorem xs_frz (i : Nat) {s : Stmt} {t : XS} (h : PS X s (lS X.K E fr t)) : PS X s (lS X.K E fr (frzS i t)) := ps_imp (ps_frz h) fun C σ H h => by
  obtain ⟨F, ρ, r, p⟩ := h
  cases e : frzR i ρ with
  | none =>
    unfold PendS frzS at p
    simp only [e] at p
  | some ρ1 =>
    have p : PendS X.K E fr (fun _ => t ρ1) ρ σ F H C := by
      unfold PendS frzS at p
      simp only [e] at p
      unfold PendS
      exact p
    rcases frz_of r e with rfl | ⟨d, u, hd, mu, g⟩
    · exact .inl ⟨F, _, r, p⟩
    · exact .inr ⟨d, u, hd, mu, fun od => ⟨F, ρ1, (g od).rel, PendS.go r (g od) p⟩⟩
def dKeysT : D → Option (List D)
  | .dicT true es => some (es.map fun e => .tup (e.1.map dKey))
  | _ => none
def xItK (i : Nat) : XA := fun ρ => match ρ[i]? with
  | some (.rd d) => lift dKeysT d ρ
  | _ => .bad
theorem iters_keysT {K : PySem.W.Frag} {ρ : Rho} {σ : L2.St} {F H : Hp} {a : Addr} {o : Obj} {kvs : List (List Key × V)} {es : List (List Key × D)} (hk : kvs.map (·.1) = es.map (·.1)) (h : ∀ ρ2 σ2 F2 H2, Go K ρ σ F H ρ2 σ2 F2 H2 → H2 a = some (.frz o (.dT kvs))) : Iters K ρ σ F H (es.map fun e => .tup (e.1.map dKey)) (Itkt a o kvs) := fun ρ2 σ2 F2 H2 g => by
  have hlen : kvs.length = es.length := by
    have := congrArg List.length hk
    simpa using this
  refine ⟨fun i d hd => ?_, fun i hi => ⟨h ρ2 σ2 F2 H2 g, by rw [List.length_map] at hi; omega⟩⟩
  rw [List.getElem?_map] at hd
  obtain ⟨e, he, rfl⟩ := Option.map_eq_some_iff.mp hd
  have hi : i < es.length := (List.getElem?_eq_some_iff.mp he).1
  refine ⟨⟨h ρ2 σ2 F2 H2 g, by omega⟩, fun x H3 y => ?_⟩
  obtain ⟨rfl, k, v, q, hkv, rfl, hq⟩ := y
  have ek : k = e.1 := by
    have h1 : (kvs.map (·.1))[i]? = some k := by rw [List.getElem?_map, hkv]; rfl
    rw [hk, List.getElem?_map, he] at h1
    exact (Option.some.inj h1).symm
  subst ek
  obtain ⟨F3, f1, f2, f3, f4⟩ := keys_known (K := K) (kvs := [(e.1, v)]) (es := [e]) (bs := [q]) g.rel.ex rfl (.cons hq .nil)
  refine ⟨F3, ⟨f1, Same.refl _, f2, f3⟩, ?_⟩
  cases f4 with
  | cons r _ => exact r
theorem xi_keys {tg : Expr} {i : Nat} {x : Str} {xp : Pos} (ho : PE X (.Name x xp) (tVar i)) : PI X tg (.Name x xp) (lI X.K E (xItK i)) := pi_imp (pi_keys ho) fun σ H R h => by
  obtain ⟨F, ρ, r, p⟩ := h
  unfold Pend xItK at p
  split at p <;> rename_i e
  · split at e
    · rename_i ρ' d q
      have hd : rdD i ρ = some d := by unfold rdD; rw [q]
      obtain ⟨v, s1, ra⟩ := r.rd hd
      refine ⟨v, s1, ?_⟩
      unfold lift at e
      split at e
      · rename_i ds hds
        cases e
        unfold dKeysT at hds
        split at hds
        · cases hds
          cases ra with
          | val rv nf =>
            cases rv with
            | dicT hf hk hr => exact ⟨_, _, rfl, .inr ⟨_, r.ex _ _ hf, p F H (Go.refl r) _ (iters_keysT hk fun ρ2 σ2 F2 H2 g => g.rel.ex _ _ (g.ex _ _ hf))⟩⟩
          | own f1 h1 ro =>
            have nO := r.rdis i _ _ q s1
            cases ro with
            | dicT hk hr => exact ⟨_, _, rfl, .inr ⟨_, h1, p F H (Go.refl r) _ (iters_keysT hk fun ρ2 σ2 F2 H2 g => (g.keep _ _ h1 f1 nO).1)⟩⟩
        · cases hds
      · cases e
    · cases e
  · split at e
    · unfold lift at e
      split at e <;> cases e
    · cases e
  · exact p.elim
end
section
variable {α : Type} (ρ : Rho) (i : Nat) (t : XS) (u : Rho → Res α)
def frzO (i : Nat) (ρ : Rho) (o : Option D) : Option Rho := match o with
  | some (.dicT false es) => some (ρ.set i (.own (.dicT true es)))
  | some (.dicK false es) => some (ρ.set i (.own (.dicK true es)))
  | some (.dicT true _) => some ρ
  | some (.dicK true _) => some ρ
  | _ => none
theorem zhp : frzR i ρ = frzO i ρ (ownD i ρ) := rfl
theorem zhq (es : List (List Key × D)) : frzO i ρ (some (.dicT false es)) = some (ρ.set i (.own (.dicT true es))) := rfl
theorem zhr (es : List (List Key × D)) : frzO i ρ (some (.dicT true es)) = some ρ := rfl
def frzS1 (t : XS) (o : Option Rho) : Fl := match o with
  | some ρ1 => t ρ1
  | none => .bad
theorem zhs : frzS i t ρ = frzS1 t (frzR i ρ) := rfl
theorem zht : frzS1 t (some ρ) = t ρ := rfl
def itKO (o : Option Slot) (ρ : Rho) : Res (List D) := match o with
  | some (.rd d) => lift dKeysT d ρ
  | _ => .bad
theorem zhu : xItK i ρ = itKO ρ[i]? ρ := rfl
theorem zhv (d : D) : itKO (some (.rd d)) ρ = liftO (dKeysT d) ρ := rfl
theorem zhw (es : List (List Key × D)) : dKeysT (.dicT true es) = some (es.map fun e => .tup (e.1.map dKey)) := rfl
end
end G


set_option maxHeartbeats 4000000
namespace G
open PySem PySem.Spec PyProof.Rows L2

def enumF : Nat → List D → List D
  | _, [] => []
  | n, d :: r => .tup [.int (n : Nat), d] :: enumF (n + 1) r
theorem enumF_get : ∀ (ds : List D) (n i : Nat), (enumF n ds)[i]? = ds[i]?.map fun d => .tup [.int ((n + i : Nat) : Int), d]
  | [], n, i => by simp [enumF]
  | d :: r, n, 0 => rfl
  | d :: r, n, i + 1 => by
    show (enumF (n + 1) r)[i]? = _
    rw [enumF_get r (n + 1) i, List.getElem?_cons_succ, show n + 1 + i = n + (i + 1) by omega]
theorem enumF_len : ∀ (ds : List D) (n : Nat), (enumF n ds).length = ds.length
  | [], _ => rfl
  | d :: r, n => by
    show (enumF (n + 1) r).length + 1 = r.length + 1
    rw [enumF_len r (n + 1)]
section
variable {X : Cx} {E : EW} {fr : Bool} {pos : Pos}
end
section
variable (ρ : Rho) (ta tb tc : XV)
end
end G


set_option maxHeartbeats 4000000
namespace G
open PySem PySem.Spec PyProof.Rows L2

end G


set_option maxHeartbeats 4000000
namespace G
open PySem PySem.Spec PyProof.Rows L2

def dEnum : D → Option (List D)
  | .lst ds => some (enumF 0 ds)
  | _ => none
theorem iters_enum {K : PySem.W.Frag} {ρ : Rho} {σ : L2.St} {F H : Hp} {a : Addr} {xs : List V} {ds : List D} (h : ∀ ρ2 σ2 F2 H2, Go K ρ σ F H ρ2 σ2 F2 H2 → SqL K H2 a xs) (r : RpAll K F xs ds) : Iters K ρ σ F H (enumF 0 ds) (Ite K a) := fun ρ2 σ2 F2 H2 g =>
  ⟨fun i d hd => by
    rw [enumF_get, Nat.zero_add] at hd
    obtain ⟨e, he, rfl⟩ := Option.map_eq_some_iff.mp hd
    obtain ⟨v, hv, rv⟩ := r.get he
    exact ⟨⟨xs, v, h ρ2 σ2 F2 H2 g, hv⟩, fun x H3 y => by
      obtain ⟨T, x', rfl, hT, rfl, y⟩ := y
      have := y xs (h ρ2 σ2 F2 _ g)
      rw [hv] at this
      cases this
      exact ⟨_, Gr.new g.rel.ex hT, .tup upd_same (.cons (.int _) (.cons (rv.mono (g.ex.trans (Gr.new (o := .tup _) g.rel.ex hT).ex)) .nil))⟩⟩, fun i hi => ⟨xs, h ρ2 σ2 F2 H2 g, by rw [r.length]; rw [enumF_len] at hi; exact hi⟩⟩
section
variable {X : Cx} {E : EW} {fr : Bool} {pos : Pos}
def xItE (t : XV) : XA := fun ρ => (t ρ).bind (lift dEnum)
theorem xi_enum {e : Expr} {t : XV} {p tpos : Pos} {elts : List Expr} {kk : Nat} (hg : Gl X "enumerate") (hm : X.mg "enumerate" = none) (ha : PE X e (lE X.K E t)) (hs : starEach [e] X.env = [(false, eval e X.env)] := by rfl) :
    PI X (.Tuple elts kk tpos) (.Call (.Name "enumerate" p) [e] [] pos) (lI X.K E (xItE t)) := pi_imp (pi_enum hg hm (pa_cons ha pa_nil hs) hs) fun σ H R h => by
  obtain ⟨F, ρ, r, p⟩ := h
  refine ⟨F, ρ, r, (Pend.bind r p).mono fun x ρ1 F1 H1 g1 q v rv => ?_⟩
  obtain ⟨d, e, q⟩ := q.lift
  unfold dEnum at e
  split at e
  · cases e
    cases rv with
    | lst hf ra => exact ⟨_, _, rfl, SqL.of (g1.rel.ex _ _ hf), q F1 H1 (Go.refl g1.rel) _ (iters_enum (fun ρ2 σ2 F2 H2 g => SqL.of (g.rel.ex _ _ (g.ex _ _ hf))) ra)⟩
  · cases e
end
section
variable (ρ : Rho) (i : Nat) (t : XV)
theorem zhF : xItE t ρ = (t ρ).bind (G.lift dEnum) := rfl
theorem zhG (ds : List D) : dEnum (.lst ds) = some (enumF 0 ds) := rfl
end
end G


set_option maxHeartbeats 4000000
namespace G
open PySem PySem.Spec PyProof.Rows L2

end G


set_option maxHeartbeats 4000000
namespace G
open PySem PySem.Spec PyProof.Rows L2

section
variable {g : XG} {body : XS}
/-- the first answer of r at i, i + 1, .. (n of them) -/
def first (r : Nat → Option D) : Nat → Nat → Option D
  | _, 0 => none
  | i, n + 1 => (r i).or (first r (i + 1) n)
theorem forRun_first {α : Type} {e : α → D} (I : Nat → Rho → Prop) (r : Nat → Option D) : ∀ (l : List α) (k : Nat) (ρ : Rho), I k ρ → (∀ (i : Nat) (a : α) (ρ : Rho), l[i]? = some a → I (k + i) ρ → ∃ ρ1, g (e a) ρ = some ρ1 ∧ ∃ ρ2, (r (k + i) = none ∧ (body ρ1 = .nx ρ2 ∨ body ρ1 = .cnt ρ2) ∧ I (k + i + 1) ρ2) ∨ ∃ v, r (k + i) = some v ∧ body ρ1 = .ret v ρ2) →
    ∃ ρ', (first r k l.length = none ∧ forRun g body (l.map e) ρ = .nx ρ' ∧ I (k + l.length) ρ') ∨ ∃ v, first r k l.length = some v ∧ forRun g body (l.map e) ρ = .ret v ρ'
  | [], k, ρ, h, _ => ⟨ρ, .inl ⟨rfl, rfl, h⟩⟩
  | a :: l, k, ρ, h, hs => by
    obtain ⟨ρ1, e1, ρ2, hb⟩ := hs 0 a ρ rfl h
    rcases hb with ⟨hr, hb, h2⟩ | ⟨v, hr, hb⟩
    · obtain ⟨ρ', h4⟩ := forRun_first I r l (k + 1) ρ2 h2 fun i b ρ hi hI => by
        have := hs (i + 1) b ρ hi (by rw [show k + (i + 1) = k + 1 + i by omega]; exact hI)
        rwa [show k + (i + 1) = k + 1 + i by omega] at this
      refine ⟨ρ', ?_⟩
      have e3 : forRun g body ((a :: l).map e) ρ = forRun g body (l.map e) ρ2 := by
        rw [List.map_cons, zcK, e1]
        rcases hb with hb | hb
        · rw [zcL, hb, zcM]
        · rw [zcL, hb, zcN]
      have e4 : first r k (a :: l).length = first r (k + 1) l.length := by
        show (r k).or (first r (k + 1) l.length) = _
        rw [show r k = none from hr]
        rfl
      rw [e3, e4, show k + (a :: l).length = k + 1 + l.length by rw [List.length_cons]; omega]
      exact h4
    · refine ⟨ρ2, .inr ⟨v, ?_, ?_⟩⟩
      · show (r k).or (first r (k + 1) l.length) = _
        rw [show r k = some v from hr]
        rfl
      · rw [List.map_cons, zcK, e1, zcL, hb, zcP]
end
section
variable {X : Cx} {E : EW}
end
section
variable {i : Nat} {ρ : Rho}
end
end G


set_option maxHeartbeats 4000000
namespace G
open PySem PySem.Spec PyProof.Rows L2

section
variable {P : Program} {w : World} {H : Hp} {h : Heap} {a b : Addr} {kvs : List (NestedKey × Addr × V)} {k : NestedKey}
end
section
variable {X : Cx} {pins : List (Addr × Obj)} {σ : L2.St} {H : Hp} {s : Shared} {a b : Addr} {v : V} {r : Value} {A : Around} {E : Value → Shared → Prop} {kvs : List (NestedKey × Addr × V)} {k : NestedKey}
end
section
variable {X : Cx} {o i e value : Expr} {pos pos' tpos : Pos} {td ty tv : TE}
end
end G


set_option maxHeartbeats 4000000
namespace G
open PySem PySem.Spec PyProof.Rows L2

section
variable {K : PySem.W.Frag} {F F' H H' : Hp}
end
section
variable {X : Cx} {E : EW} {fr : Bool} {pos : Pos}
end
section
variable {α β : Type} {ρ : Rho} {i : Nat} {ta tb : XV}
end
end G


set_option maxHeartbeats 4000000
namespace G
open PySem PySem.Spec PyProof.Rows L2

def whN (go : XS) (f : Fl) : Fl := match f with
  | .nx ρ => go ρ
  | .cnt ρ => go ρ
  | .brk ρ => .nx ρ
  | f => f
def whK (go body : XS) : Bool → Rho → Fl := fun b ρ1 => if b = true then whN go (body ρ1) else .nx ρ1
def whileRun (t : XT) (body : XS) : Nat → XS
  | 0, _ => .bad
  | n + 1, ρ => (t ρ).fl (whK (whileRun t body n) body)
def xWhile (n : Nat) (t : XT) (body : XS) : XS := whileRun t body n
section
variable {X : Cx} {E : EW} {fr : Bool} {pos : Pos}
theorem xs_while (n : Nat) {c : Expr} {body : List Stmt} {t : XT} {tb : XS} (hp : PassesOwn (model X.prog X.w) X.A X.env X.xe) (hc : PT X c (lT X.K E t)) (hb : PSs X body (lS X.K E fr tb)) : PS X (.While c body [] pos) (lS X.K E fr (xWhile n t tb)) := by
  refine ps_imp (ps_while hp hc hb) fun C σ H h => ?_
  obtain ⟨F, ρ, r, p⟩ := h
  refine ⟨fun m σ' H' => ∃ F' ρ', Go X.K ρ σ F H ρ' σ' F' H' ∧ PendS X.K E fr (whileRun t tb m) ρ' σ' F' H' C, ⟨n, F, ρ, Go.refl r, p⟩, ?_⟩
  rintro m σ' H' ⟨F', ρ', g, q⟩
  cases m with
  | zero =>
    unfold PendS whileRun at q
    exact q.elim
  | succ m =>
    have q' : PendS X.K E fr (fun ρ => (t ρ).fl (whK (whileRun t tb m) tb)) ρ' σ' F' H' C := q
    refine ⟨F', ρ', g.rel, (PendS.fl g.rel q').mono fun b ρ1 F1 H1 g1 q1 => ?_⟩
    cases b with
    | false =>
      rw [if_neg (by decide)]
      exact q1 σ' F1 H1 (Go.refl g1.rel)
    | true =>
      rw [if_pos rfl]
      have g01 := g.trans r g1
      refine ⟨fun σ2 H2 => ∃ F2 ρ2, Go X.K ρ σ F H ρ2 σ2 F2 H2 ∧ PendS X.K E fr (whileRun t tb m) ρ2 σ2 F2 H2 C, fun σ2 H2 h => ⟨m, Nat.lt_succ_self m, h⟩, F1, ρ1, g1.rel, ?_⟩
      have q2 : PendS X.K E fr (fun ρ => whN (whileRun t tb m) (tb ρ)) ρ1 σ' F1 H1 C := by
        unfold PendS at q1 ⊢
        exact q1
      have tail : ∀ {σ5 F5 H5 ρ5}, Go X.K ρ1 σ' F1 H1 ρ5 σ5 F5 H5 → PendS X.K E fr (fun _ => whileRun t tb m ρ5) ρ1 σ' F1 H1 C → ∃ F2 ρ2, Go X.K ρ σ F H ρ2 σ5 F2 H5 ∧ PendS X.K E fr (whileRun t tb m) ρ2 σ5 F2 H5 C :=
        fun {σ5 F5 H5 ρ5} g5 k => ⟨F5, ρ5, g01.trans r g5, PendS.go g1.rel g5 k⟩
      unfold PendS at q2 ⊢
      split <;> rename_i e5 <;> simp only [e5, whN] at q2
      · exact fun σ5 F5 H5 g5 => tail g5 q2
      · exact q2
      · exact q2
      · exact fun σ5 F5 H5 g5 => tail g5 q2
      · exact q2
end
theorem zhY (n : Nat) (t : XT) (p : XS) (ρ : Rho) : xWhile n t p ρ = whileRun t p n ρ := rfl
end G


set_option maxHeartbeats 4000000
namespace G
open PySem PySem.Spec PyProof.Rows L2

section
variable {X : Cx} {E : EW} {pos : Pos}
def xChn (f g : D → D → Option D) (tc : XV) (x y : D) : XV := fun ρ => match f x y with
  | some (.bl true) => (tc ρ).bind (lift (g y))
  | some (.bl false) => .ok (.bl false) ρ
  | _ => .bad
def xChain (f g : D → D → Option D) (ta tb tc : XV) : XV := fun ρ => (ta ρ).bind fun x ρ1 => (tb ρ1).bind fun y ρ2 => xChn f g tc x y ρ2
end
theorem zhZ (f g : D → D → Option D) (ta tb tc : XV) (ρ : Rho) : xChain f g ta tb tc ρ = (ta ρ).bind fun x ρ1 => (tb ρ1).bind fun y ρ2 => xChn f g tc x y ρ2 := rfl
def chnO (o : Option D) (g : D → D → Option D) (tc : XV) (y : D) (ρ : Rho) : Res D := match o with
  | some (.bl true) => (tc ρ).bind (lift (g y))
  | some (.bl false) => .ok (.bl false) ρ
  | _ => .bad
theorem zia (f g : D → D → Option D) (tc : XV) (x y : D) (ρ : Rho) : xChn f g tc x y ρ = chnO (f x y) g tc y ρ := rfl
theorem zib (g : D → D → Option D) (tc : XV) (y : D) (ρ : Rho) : chnO (some (.bl true)) g tc y ρ = (tc ρ).bind (lift (g y)) := rfl
theorem zic (g : D → D → Option D) (tc : XV) (y : D) (ρ : Rho) : chnO (some (.bl false)) g tc y ρ = .ok (.bl false) ρ := rfl
end G


set_option maxHeartbeats 4000000
namespace G
open PySem PySem.Spec PyProof.Rows L2

end G


set_option maxHeartbeats 4000000
namespace G
open PySem PySem.Spec PyProof.Rows L2

mutual
/-- numbers, truths, texts, None, tuples of these -/
def noL : D → Bool
  | .non => true
  | .bl _ => true
  | .int _ => true
  | .str _ => true
  | .ty _ => true
  | .tup ds => noLs ds
  | _ => false
def noLs : List D → Bool
  | [] => true
  | d :: ds => noL d && noLs ds
end
section
variable {X : Cx} {cv : String → Value} {pos : Pos} {W : WX}
end
theorem noLs_ints : ∀ ns : List Int, noLs (ns.map D.int) = true
  | [] => rfl
  | _ :: ns => noLs_ints ns
theorem zil (i : Int) : noL (.int i) = true := rfl
end G


set_option maxHeartbeats 4000000
namespace G
open PySem PySem.Spec PyProof.Rows L2

def popE (es : List (List Key × D)) (k : List Key) : List (List Key × D) := es.filter fun e => decide (e.1 ≠ k)
theorem RpE.drop {K : PySem.W.Frag} {F : Hp} {k : List Key} : ∀ {kvs : List (List Key × V)} {es : List (List Key × D)}, RpE K F kvs es → RpE K F (dropK kvs k) (popE es k) := by
  intro kvs es h
  have hk := h.keys
  have hv := h.vals
  clear h
  induction kvs generalizing es with
  | nil =>
    cases es with
    | nil => exact RpE.of rfl .nil
    | cons _ _ => simp at hk
  | cons p ps ih =>
    cases es with
    | nil => simp at hk
    | cons e es =>
      simp only [List.map_cons, List.cons.injEq] at hk
      cases hv with
      | cons v1 v2 =>
        have r := ih hk.2 v2
        have eD : dropK (p :: ps) k = if p.1 = k then dropK ps k else p :: dropK ps k := by
          unfold dropK
          by_cases z : p.1 = k <;> simp [List.filter_cons, z]
        have eE : popE (e :: es) k = if p.1 = k then popE es k else e :: popE es k := by
          unfold popE
          rw [hk.1]
          by_cases z : e.1 = k <;> simp [List.filter_cons, z]
        rw [eD, eE]
        by_cases z : p.1 = k
        · rw [if_pos z, if_pos z]; exact r
        · rw [if_neg z, if_neg z]
          exact RpE.of (by simp only [List.map_cons, hk.1, r.keys]) (.cons v1 r.vals)
section
variable {X : Cx} {E : EW} {pos : Pos}
end

section
variable {X : Cx} {E : EW}
end
section
variable (ρ : Rho) (i : Nat) (ta tb : XV)
end
end G


set_option maxHeartbeats 4000000
namespace G
open PySem PySem.Spec PyProof.Rows L2

def mB (es : List (Key × D)) (c : Int) : Bool := (lk es (.inl c)).isSome
def Tb (es : List (Key × D)) (S : Int → Prop) (n : Nat) : Prop := (∀ c : Int, mB es c = true ↔ S c) ∧ es.length ≤ n
theorem Tb.nil : Tb [] (fun _ => False) 0 := ⟨fun c => ⟨fun h => (by cases h), fun h => h.elim⟩, Nat.le_refl _⟩
theorem lk_ptK (es : List (Key × D)) (k : Key) (d : D) (j : Key) : lk (pt es k d) j = if j = k then some d else lk es j := lkA_pt es k d j
theorem Tb.pt {es : List (Key × D)} {S : Int → Prop} {n : Nat} (h : Tb es S n) (c : Int) (d : D) : Tb (pt es (.inl c) d) (fun x => S x ∨ x = c) (n + 1) := by
  refine ⟨fun x => ?_, Nat.le_trans (ptA_len es (.inl c) d) (Nat.succ_le_succ h.2)⟩
  unfold mB
  rw [lk_ptK]
  by_cases e : x = c
  · subst e
    rw [if_pos rfl]
    exact ⟨fun _ => .inr rfl, fun _ => rfl⟩
  · rw [if_neg (fun z => e (by cases z; rfl))]
    rw [show ((lk es (.inl x)).isSome = true ↔ S x) from h.1 x]
    exact ⟨.inl, fun z => z.elim id fun z => absurd z e⟩
theorem Tb.mono {es : List (Key × D)} {S T : Int → Prop} {n m : Nat} (h : Tb es S n) (hS : ∀ c, S c ↔ T c) (hn : n ≤ m) : Tb es T m := ⟨fun c => (h.1 c).trans (hS c), Nat.le_trans h.2 hn⟩
def LM (k : Int) (A : Nat → List (Int × Int)) (n : Nat) (c : Int) : Prop := ∃ i, i < n ∧ ∃ x ∈ A i, ((livesP k (A i) x : Nat) : Int) = c
theorem first_none (r : Nat → Option D) : ∀ (n i : Nat), first r i n = none ↔ ∀ j, i ≤ j → j < i + n → r j = none
  | 0, i => ⟨fun _ j h1 h2 => by omega, fun _ => rfl⟩
  | n + 1, i => by
    show (r i).or (first r (i + 1) n) = none ↔ _
    rw [Option.or_eq_none_iff, first_none r n (i + 1)]
    constructor
    · rintro ⟨h1, h2⟩ j h3 h4
      by_cases hj : j = i
      · rw [hj]; exact h1
      · exact h2 j (by omega) (by omega)
    · intro h
      exact ⟨h i (by omega) (by omega), fun j h1 h2 => h j (by omega) (by omega)⟩
end G


set_option maxHeartbeats 4000000
namespace G
open PySem PySem.Spec PyProof.Rows L2

theorem atI_at {α : Type} (f : α → D) {l : List α} {i : Nat} {c : α} (h : l[i]? = some c) : atI (l.map f) (i : Int) = some (f c) := atI_nat (by rw [List.getElem?_map, h]; rfl)
end G


set_option maxHeartbeats 4000000
namespace G
open PySem PySem.Spec PyProof.Rows L2

section
variable {X : Cx} {E : EW}
end
end G


set_option maxHeartbeats 4000000
namespace G
open PySem PySem.Spec PyProof.Rows L2

section
variable {K : PySem.W.Frag} {F H : Hp} {ρ : Rho} {σ : L2.St}
/-- where nothing is owned all that is known stays -/
theorem Go.stays {ρ' : Rho} {σ' : L2.St} {F' H' : Hp} (r : Rel K F H ρ σ) (no : ∀ p, ¬ Own ρ σ p) (g : Go K ρ σ F H ρ' σ' F' H') : Same H H' := fun a o h => g.sameH r h (no a)
end
section
variable {X : Cx} {E : EW} {fr : Bool} {pos pos2 : Pos}
end
section
variable (ρ : Rho) (h j : Nat) (ti : XA) (tt : XT) (tb : XS)
end
end G


set_option maxHeartbeats 4000000
namespace G
open PySem PySem.Spec PyProof.Rows L2

section
variable {P : Program} {w : World} {A : Around} {E : Value → Shared → Prop} {s : Shared}
end
section
variable {X : Cx} {E : EW} {pos : Pos}
end
section
variable (ρ : Rho) (i : Nat)
end
end G


set_option maxHeartbeats 4000000
namespace G
open PySem PySem.Spec PyProof.Rows L2

section
variable {K : PySem.W.Frag} {F H : Hp} {ρ : Rho} {σ : L2.St}
theorem Ro.rp {p : Addr} {o : HO} {d : D} (f : F p = none) (r : Ro K F p o d) : Rp K (upd F p o) (.ref p) d := ro_rp f r
end
/-- a text that changes lists of what slot i holds, and nothing else; slot j may be set -/
def Mut (K : PySem.W.Frag) (i j : Nat) (m : D → Bool) (u : TS) : Prop := ∀ (F2 H : Hp) (σ : L2.St) (v : V) (d : D) (C : Ends), σ[i]? = some (some v) → j < σ.length → Rp K F2 v d → Same F2 H → m d = true →
  (∀ o H', (∀ a w, H a = some w → (∀ xs, F2 a ≠ some (.lst xs)) → H' a = some w) → C.nx (σ.set j o) H') → u C σ H
section
variable {X : Cx} {cv : String → Value} {pos pos2 : Pos} {W : WX} {fr : Bool}
end
section
variable {K : PySem.W.Frag} {E : EW}
end
section
variable (ρ : Rho) (i j : Nat) (md : List Bool) (g : DF) (t : XA) (tt : XT) (tb : XS) (m : D → Bool)
end
end G


set_option maxHeartbeats 4000000
namespace G
open PySem PySem.Spec PyProof.Rows L2

end G


set_option maxHeartbeats 4000000
namespace G
open PySem PySem.Spec PyProof.Rows L2

section
variable {K : PySem.W.Frag} {F H F1 H1 H2 : Hp} {ρ ρ1 : Rho} {σ σ1 : L2.St}
end
section
variable {K : PySem.W.Frag} {E : EW} {fr : Bool}
end
section
variable {X : Cx} {E : EW} {fr : Bool} {pos pos2 : Pos}
end
section
variable (ρ : Rho) (i j : Nat) (te t1 t2 : XV) (ts : XS) (tt : XT) (tb : XS) (m : D → Bool)
end
end G


set_option maxHeartbeats 4000000
namespace G
open PySem PySem.Spec PyProof.Rows L2

section
variable {K : PySem.W.Frag} {E : EW}
/-- where the loop stands: the two lists at a0, a1, the tuple at p -/
structure T2 (K : PySem.W.Frag) (ρ0 : Rho) (σ0 : L2.St) (F0 H0 : Hp) (i : Nat) (p a0 a1 : Addr) (A B : List D) (ρ : Rho) (σ : L2.St) (F H : Hp) : Prop where
  go : Go K ρ0 σ0 F0 H0 (ρ.set i (.adr p)) σ F H
  n0 : H0 a0 = none
  n1 : H0 a1 = none
  ne : a0 ≠ a1
  hp : H p = some (.tup [.ref a0, .ref a1])
  op : ¬ Own (ρ.set i (.adr p)) σ p
  h0 : ∃ xs, H a0 = some (.lst xs) ∧ RpAll K F xs A
  f0 : F a0 = none
  o0 : ¬ Own (ρ.set i (.adr p)) σ a0
  h1 : ∃ xs, H a1 = some (.lst xs) ∧ RpAll K F xs B
  f1 : F a1 = none
  o1 : ¬ Own (ρ.set i (.adr p)) σ a1
  len : i < ρ.length
  i0 : i ≠ 0
variable {ρ0 ρ ρ1 : Rho} {σ0 σ σ1 : L2.St} {F0 H0 F H F1 H1 : Hp} {i : Nat} {p a0 a1 : Addr} {A B : List D}
theorem T2.slot (t : T2 K ρ0 σ0 F0 H0 i p a0 a1 A B ρ σ F H) : σ[i]? = some (some (.ref p)) := by
  have hl := t.go.rel.len
  rw [List.length_set] at hl
  have hl2 : i < σ.length := by have := t.len; omega
  have hs := List.getElem?_eq_getElem hl2
  have z := t.go.rel.at' i (.adr p) _ (List.getElem?_set_self t.len) hs
  rw [hs]
  generalize σ[i] = o at z ⊢
  cases z
  rfl
theorem own_back2 (r : Rel K F H ρ σ) (g : Go K ρ σ F H ρ1 σ1 F1 H1) {a : Addr} {o : HO} (h : H a = some o) (n : ¬ Own ρ σ a) : ¬ Own ρ1 σ1 a := fun z => by
  rcases g.own a z with z | z
  · exact n z
  · rw [h] at z; cases z
/-- an ordinary step with X in its place -/
theorem T2.step (t : T2 K ρ0 σ0 F0 H0 i p a0 a1 A B ρ σ F H) (r0 : Rel K F0 H0 ρ0 σ0) (hl : i < ρ1.length) (g : Go K (ρ.set i (.adr p)) σ F H (ρ1.set i (.adr p)) σ1 F1 H1) : T2 K ρ0 σ0 F0 H0 i p a0 a1 A B ρ1 σ1 F1 H1 := by
  have r := t.go.rel
  obtain ⟨xs, x1, x2⟩ := t.h0
  obtain ⟨ys, y1, y2⟩ := t.h1
  obtain ⟨k1, k2⟩ := g.keep a0 _ x1 t.f0 t.o0
  obtain ⟨l1, l2⟩ := g.keep a1 _ y1 t.f1 t.o1
  exact ⟨t.go.trans r0 g, t.n0, t.n1, t.ne, g.sameH r t.hp t.op, own_back2 r g t.hp t.op, ⟨xs, k1, x2.mono g.ex⟩, k2 nt_lst, own_back2 r g x1 t.o0, ⟨ys, l1, y2.mono g.ex⟩, l2 nt_lst, own_back2 r g y1 t.o1, hl, t.i0⟩
theorem Rel.noslot (r : Rel K F H (ρ.set i (.adr p)) σ) (h0 : i ≠ 0) (hs : σ[i]? = some (some (.ref p))) : Go K (ρ.set i (.adr p)) σ F H (ρ.set i .emp) σ F H := by
  have g := Go.setSlot (i := i) (s := .emp) (o := some (.ref p)) h0 (fun _ z => by cases z) (fun _ z => by cases z) r .emp
  rw [List.set_set] at g
  have e : σ.set i (some (.ref p)) = σ := by
    obtain ⟨hi, q⟩ := List.getElem?_eq_some_iff.mp hs
    rw [← q]
    exact List.set_getElem_self hi
  rw [e] at g
  exact g
theorem Rel.slotAt (r : Rel K F H ρ σ) (h0 : i ≠ 0) (hs : σ[i]? = some (some (.ref p))) : Go K ρ σ F H (ρ.set i (.adr p)) σ F H := by
  have g := Go.setSlot (i := i) (s := .adr p) (o := some (.ref p)) h0 (fun _ z => by cases z) (fun _ z => by cases z) r .adr
  have e : σ.set i (some (.ref p)) = σ := by
    obtain ⟨hi, q⟩ := List.getElem?_eq_some_iff.mp hs
    rw [← q]
    exact List.set_getElem_self hi
  rw [e] at g
  exact g
theorem T2.view (t : T2 K ρ0 σ0 F0 H0 i p a0 a1 A B ρ σ F H) (he : ρ[i]? = some .emp) : Go K (ρ.set i (.adr p)) σ F H ρ σ F H := by
  have g := t.go.rel.noslot t.i0 t.slot
  have e : ρ.set i .emp = ρ := by
    obtain ⟨hi, q⟩ := List.getElem?_eq_some_iff.mp he
    rw [← q]
    exact List.set_getElem_self hi
  rw [e] at g
  exact g
/-- expressions leave all as it was -/
theorem T2.after (t : T2 K ρ0 σ0 F0 H0 i p a0 a1 A B ρ σ F H) (r0 : Rel K F0 H0 ρ0 σ0) (he : ρ[i]? = some .emp) (g : Go K ρ σ F H ρ1 σ F1 H1) : T2 K ρ0 σ0 F0 H0 i p a0 a1 A B ρ1 σ F1 H1 := by
  have g2 := ((t.view he).trans t.go.rel g).trans t.go.rel (g.rel.slotAt t.i0 t.slot)
  refine t.step r0 ?_ g2
  have h1 := g.rel.len
  have h2 := t.go.rel.len
  rw [List.length_set] at h2
  have := t.len
  omega
/-- new things come to be known -/
theorem Go.know {F2 : Hp} (r : Rel K F H ρ σ) (g : Go K ρ σ F H ρ1 σ1 F1 H1) (ex : Same F1 F2) (sub : Same F2 H1) (nw : ∀ a o, F2 a = some o → F1 a = none → H a = none ∧ ¬ Own ρ1 σ1 a) : Go K ρ σ F H ρ1 σ1 F2 H1 := by
  refine ⟨⟨sub, g.rel.len, fun j s v h1 h2 => ?_, g.rel.dis, g.rel.rdis⟩, g.ex.trans ex, fun a u h1 h2 h3 => ?_, g.own, g.low, g.lowO, g.rdb⟩
  · have z := g.rel.at' j s v h1 h2
    cases z with
    | emp => exact .emp
    | adr => exact .adr
    | val rp => exact .val (rp.mono ex)
    | @own b o d z1 z2 z3 =>
      refine .own ?_ z2 (z3.mono ex)
      cases q : F2 b with
      | none => rfl
      | some w => exact absurd ⟨j, _, h1, h2⟩ (nw b w q z1).2
    | rd ra =>
      cases ra with
      | val rp n => exact .rd (.val (rp.mono ex) n)
      | @own b o d z1 z2 z3 =>
        refine .rd (.own ?_ z2 (z3.mono ex))
        cases q : F2 b with
        | none => rfl
        | some w => exact (rd_new r g (nw b w q z1).1 j _ h1 h2).elim
  · obtain ⟨q1, q2⟩ := g.keep a u h1 h2 h3
    refine ⟨q1, fun n => ?_⟩
    cases q : F2 a with
    | none => rfl
    | some w =>
      have := (nw a w q (q2 n)).1
      rw [h1] at this
      cases this
end
section
variable {X : Cx} {E : EW} {pos : Pos}
end
section
variable (ρ : Rho) (i j : Nat) (te : XV) (ts : XS) (c1 c2 : XT) (e1 e0 : XV)
end
end G


set_option maxHeartbeats 4000000
namespace G
open PySem PySem.Spec PyProof.Rows L2

section
variable {K : PySem.W.Frag} {E : EW} {fr : Bool}
end
section
variable {K : PySem.W.Frag} {E : EW}
end
section
variable {X : Cx} {cv : String → Value} {pos pos2 pos3 : Pos} {W : WX} {fr : Bool}
end
end G


set_option maxHeartbeats 4000000
namespace G
open PySem PySem.Spec PyProof.Rows L2

section
variable {X : Cx} {pins : List (Addr × Obj)} {σ : L2.St} {H : Hp} {s : Shared}
/-- the exception that landed at a is tracked: the state of its suite -/
theorem inv_track {a C : Addr} {oe : Obj} {vs : Array Value} {B : Heap} {sI : Shared}  (hex : X.ex = []) (hfr : frs X.stack = X.env.locals :: X.fs) (I : Inv X pins σ H s) (I0 : Inv X pins σ H sI) (nb : ∀ b o, sI.heap.get? b = some o → b ∉ frs X.stack → B.get? b = some o) (hB : B.get? a = none)
    (he : s.heap.get? a = some oe) (hz : Zc (.ref C) none oe) (hd : oe.data = .fields vs) (na : H a = none) (nfr : a ∉ frs X.stack) : Inv (X.suite a (X.pn ++ pins)) [] σ (upd H a (ExcK C a)) s := by
  have nL : a ≠ X.env.locals := fun z => nfr (by rw [hfr, z]; exact List.mem_cons_self ..)
  have inI : ∀ b, (∃ o, sI.heap.get? b = some o) → b ∉ frs X.stack → b ≠ a := fun b ⟨o, e⟩ hb z => by
    have := nb b o e hb
    rw [z, hB] at this
    cases this
  have old : ∀ b, (∃ o, X.s_0.heap.get? b = some o) → b ≠ a := fun b ⟨o, e⟩ => by
    intro z
    obtain ⟨o', e'⟩ := I0.base.there b o e (by rw [hex]; exact List.not_mem_nil)
    exact inI b ⟨o', e'⟩ (by rw [z]; exact nfr) z
  have keepN : ∀ b u, H b = some u → upd H a (ExcK C a) b = some u := fun b u q => by rw [upd_ne (ne_of_none q na)]; exact q
  have nfl : ∀ b, b ≠ X.env.locals → b ∉ X.fs → b ∉ frs X.stack := fun b h1 h2 z => by
    rw [hfr] at z
    rcases List.mem_cons.mp z with z | z
    · exact h1 z
    · exact h2 z
  refine ⟨I.ok.suite _ _, I.os, I.bare, ⟨I.base.keep, I.base.slot, fun b o e n hx => ?_, I.base.there, fun b xs q => keepN _ _ (I.base.tups b xs q), fun b o u q => keepN _ _ (I.base.frzs b o u q), fun b ps q => ?_⟩, I.loc, I.cell, ?_, fun x c e => ?_, fun p hp => ?_, ?_, I.len⟩
  · rw [upd_ne (old b ⟨o, e⟩)]
    exact I.base.free b o e n hx
  · obtain ⟨m, q'⟩ := I.base.tbls b ps q
    exact ⟨m, keepN _ _ q'⟩
  · rw [upd_ne (Ne.symm nL)]
    exact I.free
  · rw [upd_ne]
    · exact I.freeC x c e
    · rintro rfl
      obtain ⟨v, o, ho, hdc⟩ := I.cell x c e
      rw [he] at ho
      cases ho
      rw [hd] at hdc
      cases hdc
  · rw [List.append_nil] at hp
    obtain ⟨k1, k2, k3, k4, k5⟩ := I.pin p hp
    refine ⟨k1, ?_, k3, k4, k5⟩
    rw [upd_ne (inI p.1 ⟨_, (I0.pin p hp).1⟩ (nfl _ k3 k4))]
    exact k2
  · refine I.hok.laidN (fun _ _ q => q) na ⟨⟨oe, vs, he, hz, hd⟩, ⟨oe, he⟩, fun _ _ ⟨o, v, q, r⟩ k => ⟨o, v, k o q, r⟩⟩
theorem inv_unsuite {a : Addr} {pn' : List (Addr × Obj)} (I : Inv (X.suite a (X.pn ++ pins)) pn' σ H s) (ok : X.Ok) : Inv X pins σ H s :=
  ⟨ok, I.os, I.bare, I.base, I.loc, I.cell, I.free, I.freeC, fun p hp => I.pin p (List.mem_append_left _ hp), I.hok, I.len⟩
end
/-- what the clause wishes of an exception: slot i holds it, and it is tracked -/
def wTrk (K : PySem.W.Frag) (c : Value) (i : Nat) (ts : Addr → TS) (Wout : WX) (D : Ends) : WX := fun cls d σ H => ∃ b, PySem.W.exmOne K cls c = some b ∧
  (b = true → ∃ C, cls = .ref C ∧ d = none ∧ ∀ a, H a = none → ts C { nx := fun σ' H' => D.nx (σ'.set i none) H', rt := D.rt, bk := fun σ' H' => D.bk (σ'.set i none) H', ct := fun σ' H' => D.ct (σ'.set i none) H' } (σ.set i (some (.ref a))) (upd H a (ExcK C a))) ∧ (b = false → Wout cls d σ H)
section
variable {X : Cx} {x n : Str} {c : Value} {i : Nat} {body suite : List Stmt} {b₀ : Stmt} {np pos pos' : Pos} {tb : WX → TS} {ts : Addr → TS} {Wout : WX}
theorem ps_try_trk (hst : X.stack = X.env :: X.outer) (hfm : X.env.frame = some X.env.locals) (hex : X.ex = []) (hN : X.N.Nodup) (hi : X.N[i]? = some n) (hln : X.env.kindOf n = some .local) (hc : Names X x c) (tk : Takes X Wout)
    (hb : ∀ (W : WX) (pn : List (Addr × Obj)) (xe : Value → Shared → Prop), Takes (X.tr pn xe) W → PassesOwn (model X.prog X.w) X.A X.env xe → PSs (X.tr pn xe) body (tb W)) (hsu : ∀ (a C : Addr) (pn : List (Addr × Obj)), PSs (X.suite a pn) (b₀ :: suite) (ts C)) :
    PS X (.Try body [.ExceptHandler (some (.Name x np)) (some n) (b₀ :: suite) pos'] [] [] pos) (fun D σ H => tb (wTrk X.K c i ts Wout D) D σ H) := by
  constructor
  intro pins s σ H D I h
  have ok := I.ok
  have stk : X.A.frames = some (X.env :: X.outer) := ok.frames.trans (congrArg some hst)
  have fst : frs X.stack = X.env.locals :: X.fs := by
    rw [hst]
    show List.filterMap (·.frame) (X.env :: X.outer) = _
    rw [List.filterMap_cons, hfm]
    rfl
  let cat : Value → Shared → Prop := fun e s₁ => wpAny (model X.prog X.w) X.A (noteFrame e X.env) (fun _ s₂ => wpAny (model X.prog X.w) X.A (setFlight e none) (fun _ s₃ => wpAny (model X.prog X.w) X.A (handleBy e X.env [.ExceptHandler (some (.Name x np)) (some n) (b₀ :: suite) pos']) (SP X pins D) X.xe s₃) X.xe s₂) X.xe s₁
  have catches : Takes (X.tr (X.pn ++ pins) cat) (wTrk X.K c i ts Wout D) := by
    intro u s1 xx
    obtain ⟨a, B, sI, pins1, σ1, H1, cls, d, rfl, IT, nb, up, sky, na, os, ag, b, hb1, hyes, hno⟩ := xx
    have I1 : Inv X pins σ1 H1 sI := IT.ofTry ok
    rw [hst] at sky
    show wpAny (model X.prog X.w) X.A (noteFrame (.ref a) X.env) _ _ s1
    refine Sky.land Zc.steady stk hfm sky fun g1 fl1 up1 => ?_
    have J1 : Inv X pins σ1 H1 { s1 with heap := g1 } := I1.landed nb fl1.1 (up.trans up1) os ag
    obtain ⟨o1, v1, get1, zc1, dat1⟩ := fl1.there
    have off : a ∉ frs X.stack := fun hm => by
      rw [hst] at hm
      obtain ⟨_, o', e', hnf⟩ := fl1.2.2.1.mem hm
      rw [get1] at e'
      cases e'
      exact hnf _ dat1
    have nL : a ≠ X.env.locals := fun z => off (by rw [fst, z]; exact List.mem_cons_self ..)
    have nF : a ∉ X.fs := fun z => off (by rw [fst]; exact List.mem_cons_of_mem _ z)
    have lk : PySem.W.Looks (model X.prog X.w) g1 (typeOf (.ref a)) cls := fun A0 Q0 E0 s0 k q => wpAny_typeOf_ref (k _ _ get1) (by rw [zc1.1]; exact q)
    have asked := PySem.W.exm_one (M := model X.prog X.w) J1.kIn lk hb1
    have S1 := J1.suite get1 dat1 na nL nF
    have named : ∀ {Q0 : Value → Shared → Prop} {E0 : Value → Shared → Prop}, Q0 c { s1 with heap := g1 } → wpAny (model X.prog X.w) (X.A.mark (some (.ref a))) (eval (.Name x np) X.env) Q0 E0 { s1 with heap := g1 } := fun {Q0 E0} q => by
      rcases hc with ⟨c1, c2, c3 | ⟨c3, c4, c5⟩⟩
      · exact ld_glob (X := X.suite a ((a, o1) :: (X.pn ++ pins))) S1 c1 c3 q c2
      · exact ld_blt (X := X.suite a ((a, o1) :: (X.pn ++ pins))) S1 c1 c3 c4 q c5 c2
    refine wpAny_handleBy_cons (codeAny_handlers_test (named (asked.here ?_))) (by intro q; cases q)
    cases b with
    | false =>
      show wpAny _ X.A (handleBy (.ref a) X.env []) _ _ _
      refine wpAny_handleBy_nil ?_
      obtain ⟨_, _, _, oe, vs, T, _, _, q1, _, q2, q3, _⟩ := id fl1
      unfold PySem.passOn
      refine wpAny_bind (wpAny_field q1 q2 q3 ?_)
      rw [if_neg (by simp)]
      have last : wpAny (model X.prog X.w) X.A (setFlight (.ref a) X.env.frame) (fun _ t => wpAny (model X.prog X.w) X.A (throw (.ref a) : Sem Flow) (SP X pins D) X.xe t) X.xe { s1 with heap := g1 } := by
        rw [hfm]
        refine HandSPX.setFlight_upZ fl1 fun g2 held2 up2 => wpAny_throw (tk _ _ ⟨a, B, sI, pins, σ1, H1, cls, d, rfl, I1, nb, (up.trans up1).trans up2, .inr (.inr ?_), na, os, ag, hno rfl⟩)
        rw [hst]
        exact held2
      first | exact wpAny_bind last | exact wpAny_bind (wpAny_pure (wpAny_bind last))
    | true =>
      obtain ⟨C, rfl, rfl, hts⟩ := hyes rfl
      refine codeAny_handlers_suite_as (HandSPX.lands_againZ fl1 fun g2 fl2 up2 => ?_)
      have J2 : Inv X pins σ1 H1 { s1 with heap := g2 } := I1.landed nb fl2.1 ((up.trans up1).trans up2) os ag
      obtain ⟨o2, v2, get2, zc2, dat2⟩ := fl2.there
      have S2 := inv_track hex fst J2 I1 nb fl2.2.1 get2 zc2 dat2 na off
      refine store_ok (X := X.suite a (X.pn ++ pins)) (v := .ref a) S2 hN hi (.inl hln) rfl (fun s3 S3 => ?_) (.inr hln)
      refine wpAny_mono ((hsu a C (X.pn ++ pins)).run [] s3 _ _ _ S3 (hts a na)) (fun f s4 hsp => ?_) (fun _ _ z => z.elim)
      have unbind : ∀ {σ4 : L2.St} {H4 : Hp} {Q0 : Shared → Prop}, Inv (X.suite a (X.pn ++ pins)) [] σ4 H4 s4 → (∀ s5, Inv X pins (σ4.set i none) H4 s5 → Q0 s5) → wpAny (model X.prog X.w) X.A (do bindName X.env n .none; unbindBehindTheSuite X.env n pos') (fun _ s5 => Q0 s5) X.xe s4 := fun S4 k => gone_ok (inv_unsuite S4 ok) hN hi hln k
      cases f with
      | ret u => obtain ⟨v4, σ4, H4, S4, r4, q4⟩ := hsp; exact unbind S4 fun s5 J5 => ⟨_, _, _, J5, r4, q4⟩
      | next => obtain ⟨σ4, H4, S4, q4⟩ := hsp; exact unbind S4 fun s5 J5 => ⟨_, _, J5, q4⟩
      | cont => obtain ⟨σ4, H4, S4, q4⟩ := hsp; exact unbind S4 fun s5 J5 => ⟨_, _, J5, q4⟩
      | brk => obtain ⟨σ4, H4, S4, q4⟩ := hsp; exact unbind S4 fun s5 J5 => ⟨_, _, J5, q4⟩
  have run := (hb (wTrk X.K c i ts Wout D) (X.pn ++ pins) cat catches PassesOwn.looking).run [] s σ H D (I.toTry _) h
  refine wpAny_Try_except (wpAny_mono run (fun f s1 hsp => ?_) fun _ _ z => z)
  cases f with
  | ret u => obtain ⟨v, σ1, H1, I1, r1, q1⟩ := hsp; exact ⟨v, σ1, H1, I1.ofTry ok, r1, q1⟩
  | next => obtain ⟨σ1, H1, I1, q1⟩ := hsp; exact wpAny_execs_nil ⟨σ1, H1, I1.ofTry ok, q1⟩
  | cont => obtain ⟨σ1, H1, I1, q1⟩ := hsp; exact ⟨σ1, H1, I1.ofTry ok, q1⟩
  | brk => obtain ⟨σ1, H1, I1, q1⟩ := hsp; exact ⟨σ1, H1, I1.ofTry ok, q1⟩
end
def unbF (i : Nat) : Fl → Fl
  | .nx ρ => .nx (ρ.set i .emp)
  | .brk ρ => .brk (ρ.set i .emp)
  | .cnt ρ => .cnt (ρ.set i .emp)
  | .ret d ρ => .ret d (ρ.set i .emp)
  | _ => .bad
def tryV (i : Nat) (cs : List String) (hit : String → Bool) (ts : XS) : Fl → Fl
  | .exc c ρ => if cs.contains c = true then (if hit c = true then unbF i (ts (ρ.set i (.val (.exn c)))) else .exc c ρ) else .bad
  | r => r
def xTryV (i : Nat) (cs : List String) (hit : String → Bool) (tb ts : XS) : XS := fun ρ => tryV i cs hit ts (tb ρ)
section
variable {X : Cx} {E : EW} {fr : Bool} {cv : String → Value} {pos : Pos}
theorem xs_tryV {n : Str} {x : Str} {c : Value} {i : Nat} {body suite : List Stmt} {b₀ : Stmt} {np pos pos' : Pos} {Wout : WX} {tb ts : XS} {cs : List String} {hit : String → Bool} (h0 : i ≠ 0)
    (hst : X.stack = X.env :: X.outer) (hfm : X.env.frame = some X.env.locals) (hex : X.ex = []) (hN : X.N.Nodup) (hi : X.N[i]? = some n) (hln : X.env.kindOf n = some .local) (hc : Names X x c) (tk : Takes X Wout)
    (hx : ∀ k ∈ cs, PySem.W.exmOne X.K (cv k) c = some (hit k)) (hV : ∀ k ∈ cs, ∃ C, cv k = .ref C ∧ ClsAt X.K k C)
    (hb : ∀ (W : WX) (pn : List (Addr × Obj)) (xe : Value → Shared → Prop), Takes (X.tr pn xe) W → PassesOwn (model X.prog X.w) X.A X.env xe → PSs (X.tr pn xe) body (lS X.K (EWx cv W) fr tb))
    (hsu : ∀ (a : Addr) (pn : List (Addr × Obj)), PSs (X.suite a pn) (b₀ :: suite) (lS X.K E0 fr ts)) :
    PS X (.Try body [.ExceptHandler (some (.Name x np)) (some n) (b₀ :: suite) pos'] [] [] pos) (lS X.K (EWx cv Wout) fr (xTryV i cs hit tb ts)) := by
  refine ps_imp (ps_try_trk (i := i) (c := c) (tb := fun W => lS X.K (EWx cv W) fr tb) (ts := fun C D σ H => ∃ k ∈ cs, hit k = true ∧ cv k = .ref C ∧ lS X.K E0 fr ts D σ H) hst hfm hex hN hi hln hc tk hb ?_) ?_
  · intro a C pn
    constructor
    intro pins s σ H D I h
    obtain ⟨_, _, _, _, h⟩ := h
    exact (hsu a pn).run pins s σ H D I h
  · intro D σ H h
    obtain ⟨F, ρ, r, p⟩ := h
    refine ⟨F, ρ, r, ?_⟩
    unfold PendS xTryV at p
    unfold PendS
    cases e : tb ρ with
    | nx _ => simp only [e, tryV] at p ⊢; exact p
    | ret _ _ => simp only [e, tryV] at p ⊢; exact p
    | brk _ => simp only [e, tryV] at p ⊢; exact p
    | cnt _ => simp only [e, tryV] at p ⊢; exact p
    | bad => simp only [e, tryV] at p
    | exc k ρ1 =>
      simp only [e, tryV] at p ⊢
      by_cases hk : cs.contains k = true
      · rw [if_pos hk] at p
        have hm : k ∈ cs := by simpa using hk
        obtain ⟨C, hC, hat⟩ := hV k hm
        intro σ' F' H' g
        refine ⟨hit k, hx k hm, fun hh => ⟨C, hC, rfl, fun a na => ?_⟩, fun hh => ?_⟩
        · rw [if_pos hh] at p
          refine ⟨k, hm, hh, hC, ?_⟩
          have gn := (Gr.new (o := ExcK C a) g.rel.ex na).go g.rel
          have g1 := Go.setVal (i := i) (v := .ref a) (d := .exn k) h0 gn.rel (.exn hat upd_same)
          refine ⟨upd F' a (ExcK C a), _, g1.rel, ?_⟩
          have g01 := (g.trans r gn).trans r g1
          have back : ∀ {ρ2 : Rho} {σ2 : L2.St} {F2 H2 : Hp}, Go X.K (ρ1.set i (.val (.exn k))) (σ'.set i (some (.ref a))) (upd F' a (ExcK C a)) (upd H' a (ExcK C a)) ρ2 σ2 F2 H2 → Go X.K ρ σ F H (ρ2.set i .emp) (σ2.set i none) F2 H2 := fun {ρ2 σ2 F2 H2} g2 =>
            (g01.trans r g2).trans r (Go.setSlot (i := i) (s := .emp) (o := none) h0 (fun _ z => by cases z) (fun _ z => by cases z) g2.rel .emp)
          unfold PendS
          cases e2 : ts (ρ1.set i (.val (.exn k))) with
          | nx ρ2 => rw [e2] at p; exact fun σ2 F2 H2 g2 => p _ F2 H2 (back g2)
          | brk ρ2 => rw [e2] at p; exact fun σ2 F2 H2 g2 => p _ F2 H2 (back g2)
          | cnt ρ2 => rw [e2] at p; exact fun σ2 F2 H2 g2 => p _ F2 H2 (back g2)
          | ret d ρ2 =>
            rw [e2] at p
            exact ⟨fun ef v σ2 F2 H2 g2 rv => p.1 ef v _ F2 H2 (back g2) rv, fun ef q o σ2 F2 H2 g2 k1 k2 k3 k4 k5 => p.2 ef q o _ F2 H2 (back g2) k1 k2 k3 (fun z => k4 (own_set_val (fun _ y => by cases y) z)) (own_back r g01 k5)⟩
          | exc _ _ => rw [e2] at p; exact p.elim
          | bad => rw [e2] at p; exact p.elim
        · have hf : ¬ hit k = true := fun z => by rw [hh] at z; cases z
          rw [if_neg hf] at p
          exact p σ' F' H' g
      · rw [if_neg hk] at p
        exact p.elim
/-- the type of a value, an exception's too -/
def TyV (K : PySem.W.Frag) (H : Hp) (x : V) (t : Value) : Prop := TyX K H x t ∨ ∃ a C, x = .ref a ∧ H a = some (ExcK C a) ∧ ExcC K C ∧ t = .ref C
theorem kit_ofV {pins : List (Addr × Obj)} {σ : L2.St} {H : Hp} {s : Shared} {x : V} {u t : Value} (I : Inv X pins σ H s) (rx : RelV x u) (ty : TyV X.K H x t) : ∃ P : Heap → Prop, PySem.W.KitX X.K u t P ∧ P s.heap ∧ u ≠ .builtin "__main__.__loader__#opaque" := by
  rcases ty with ty | ⟨a, C, rfl, ha, c, rfl⟩
  · exact kit_of I rx ty
  · obtain rfl : u = Value.ref a := rx
    obtain ⟨⟨oe, vs, q1, ⟨q2, q3⟩, q4⟩, _⟩ := I.hok a _ ha
    obtain ⟨k1, k2, k3, k4⟩ := oe
    dsimp only at q2 q3 q4
    subst q2 q3 q4
    exact ⟨_, PySem.W.handS_kitx_exc c.hg c.hk c.hs c.hd c.ha c.hn c.ht c.hm, (⟨q1, rfl, rfl, trivial⟩ : PySem.W.InstAt s.heap a _ C none), fun z => nomatch z⟩
def rIsV (K : PySem.W.Frag) : List V → Hp → VK → Prop := fun xs H Q => ∃ (x c : V) (t u : Value) (b : Bool), xs = [x, c] ∧ ClsV c u ∧ TyV K H x t ∧ PySem.W.kitOne K t u = some b ∧ Q (.bl b) H
theorem call_isV : CallR X (.builtin "isinstance") (rIsV X.K) := by
  rintro pins s σ H xs us Q I r ⟨x, c, t, u, b, rfl, k, ty, e, q⟩
  obtain ⟨w1, w2, rfl, r1, r2⟩ := vals2 r
  obtain rfl := k.eq r2
  obtain ⟨P, kx, px, ne⟩ := kit_ofV I r1 ty
  exact PySem.W.kia_one kx I.kIn px e ne fun tk => ⟨.bl b, H, I.tok tk, rfl, q⟩
def dIsX (R : List String) (f : String → Bool) : D → Option D
  | .exn k => if R.contains k = true then some (.bl (f k)) else none
  | .non => some (.bl false)
  | _ => none
/-- what the classes of R and None are, asked for these -/
structure IsK (K : PySem.W.Frag) (R : List String) (f : String → Bool) (us : List Value) : Prop where
  ex : ∀ k ∈ R, ∀ C, ClsAt K k C → ExcC K C ∧ PySem.W.kitAny K (.ref C) us = some (f k)
  no : PySem.W.kitAny K (.type "NoneType") us = some false
theorem isX_of {K : PySem.W.Frag} {R : List String} {f : String → Bool} {us : List Value} (h : IsK K R f us) {F H : Hp} {v : V} {x d : D} (ex : Same F H) (rv : Rp K F v x) (e : dIsX R f x = some d) : ∃ t b, TyV K H v t ∧ PySem.W.kitAny K t us = some b ∧ d = .bl b := by
  cases rv with
  | non => cases e; exact ⟨_, _, .inl (.base .non), h.no, rfl⟩
  | @exn a C c hc hf =>
    unfold dIsX at e
    dsimp only at e
    split at e
    · rename_i hr
      cases e
      obtain ⟨h1, h2⟩ := h.ex c (by simpa using hr) C hc
      exact ⟨_, _, .inr ⟨a, C, rfl, ex _ _ hf, h1, rfl⟩, h2, rfl⟩
    · cases e
  | _ => cases e
theorem kit_one {K : PySem.W.Frag} {t u : Value} {b : Bool} (h : PySem.W.kitAny K t [u] = some b) : PySem.W.kitOne K t u = some b := by
  unfold PySem.W.kitAny at h
  cases q : PySem.W.kitOne K t u with
  | none => rw [q] at h; cases h
  | some c =>
    rw [q] at h
    cases c with
    | true => exact h
    | false => exact h
/-- isinstance(e, C), C a class that stands at u -/
theorem xe_isX1 {R : List String} {f : String → Bool} {u : Value} {cV : V} {o e2 : Expr} {te : XV} {p : Pos} (h : IsK X.K R f [u]) (hcv : ClsV cV u) (hg : Gl X "isinstance") (hm : X.mg "isinstance" = none) (he : PE X o (lE X.K E te)) (hx : PE X e2 (tC cV))
    (s1 : starEach [o, e2] X.env = (false, eval o X.env) :: starEach [e2] X.env := by rfl) (s2 : starEach [e2] X.env = (false, eval e2 X.env) :: starEach [] X.env := by rfl) (hpl : (backTo pos (starEach [e2] X.env)).any (·.1) = false := by rfl) :
    PE X (.Call (.Name "isinstance" p) [o, e2] [] pos) (lE X.K E (xOp1 (dIsX R f) te)) := by
  refine pe_imp (pe_callB call_isV hg hm bt_isinstance (pa_cons he (pa_cons hx pa_nil s2) s1) (he := s1) (hpl := hpl)) fun σ H Q q => ?_
  obtain ⟨F, ρ, r, p⟩ := q
  refine ⟨F, ρ, r, (Pend.bind r p).mono fun x ρ1 F1 H1 g1 q v rv => ?_⟩
  obtain ⟨d, e, q⟩ := q.lift
  obtain ⟨t, b, k1, k2, rfl⟩ := isX_of h g1.rel.ex rv e
  exact ⟨v, cV, t, u, b, rfl, hcv, k1, kit_one k2, q F1 H1 (Go.refl g1.rel) _ (.bl b)⟩
end
section
variable {K : PySem.W.Frag} {C : Addr} {t : Value} {b : Bool}
theorem kit_refT (c : ClsT K C) (hne : t ≠ .ref C) (h : PySem.W.subIn K t (.ref C) = some b) : PySem.W.kitOne K t (.ref C) = some b := by
  unfold PySem.W.kitOne
  rw [if_neg (by simpa using hne)]
  unfold PySem.W.kitCls
  have h2 : ((PySem.W.clsIn K C).isSome && PySem.W.typeIn K (.ref C) == some (.type "type")) = true := by
    have : (PySem.W.clsIn K C).isSome = true := c.cl
    rw [this, c.ty]
    rfl
  simp only
  rw [if_pos h2]
  exact h
theorem kit_nonE : PySem.W.kitOne K (.type "NoneType") (.type "ValueError") = some false := kit_ty (by decide +kernel)
end
section
variable (ρ : Rho) (i : Nat)
theorem zja (cs : List String) (hit : String → Bool) (tb ts : XS) : xTryV i cs hit tb ts ρ = tryV i cs hit ts (tb ρ) := rfl
theorem zjb (cs : List String) (hit : String → Bool) (ts : XS) : tryV i cs hit ts (.nx ρ) = .nx ρ := rfl
theorem zjc (cs : List String) (hit : String → Bool) (ts : XS) (d : D) : tryV i cs hit ts (.ret d ρ) = .ret d ρ := rfl
theorem zjd : unbF i (.nx ρ) = .nx (ρ.set i .emp) := rfl
theorem zje (d : D) : unbF i (.ret d ρ) = .ret d (ρ.set i .emp) := rfl
theorem zjf (R : List String) (f : String → Bool) : dIsX R f .non = some (.bl false) := rfl
end
end G


set_option maxHeartbeats 4000000
namespace G
open PySem PySem.Spec PyProof.Rows L2

def putD (f : Str) (d : D) : List (Str × D) → List (Str × D)
  | [] => [(f, d)]
  | (g, x) :: r => if g = f then (g, d) :: r else (g, x) :: putD f d r
theorem putD_rel {K : PySem.W.Frag} {F : Hp} {f : Str} {v : V} {d : D} (rv : Rp K F v d) : ∀ {fs : List (Str × V)} {es : List (Str × D)}, fs.map (·.1) = es.map (·.1) → RpAll K F (fs.map (·.2)) (es.map (·.2)) → (putF f v fs).map (·.1) = (putD f d es).map (·.1) ∧ RpAll K F ((putF f v fs).map (·.2)) ((putD f d es).map (·.2))
  | [], [], _, _ => ⟨rfl, .cons rv .nil⟩
  | (g, x) :: fs, (h, y) :: es, k, r => by
    rw [List.map_cons, List.map_cons] at k
    injection k with k1 k2
    have k1 : g = h := k1
    subst k1
    cases r with
    | cons r1 r2 =>
      unfold putF putD
      by_cases e : g = f
      · rw [if_pos e, if_pos e]
        exact ⟨by rw [List.map_cons, List.map_cons, k2], .cons rv r2⟩
      · rw [if_neg e, if_neg e]
        obtain ⟨q1, q2⟩ := putD_rel (f := f) rv k2 r2
        exact ⟨by rw [List.map_cons, List.map_cons, q1], .cons r1 q2⟩
  | [], _ :: _, k, _ => by cases k
  | _ :: _, [], k, _ => by cases k
theorem look_rel {K : PySem.W.Frag} {F : Hp} {f : Str} : ∀ {fs : List (Str × V)} {es : List (Str × D)}, fs.map (·.1) = es.map (·.1) → RpAll K F (fs.map (·.2)) (es.map (·.2)) → (∀ d, es.lookup f = some d → ∃ v, fs.lookup f = some v ∧ Rp K F v d) ∧ (es.lookup f = none → fs.lookup f = none)
  | [], [], _, _ => ⟨fun _ e => (nomatch e), fun _ => rfl⟩
  | (g, x) :: fs, (h, y) :: es, k, r => by
    rw [List.map_cons, List.map_cons] at k
    injection k with k1 k2
    have k1 : g = h := k1
    subst k1
    cases r with
    | cons r1 r2 =>
      obtain ⟨q1, q2⟩ := look_rel (f := f) k2 r2
      simp only [List.lookup_cons]
      cases e : f == g with
      | true => exact ⟨fun d e => by cases e; exact ⟨x, rfl, r1⟩, fun e => by cases e⟩
      | false => exact ⟨q1, q2⟩
  | [], _ :: _, k, _ => by cases k
  | _ :: _, [], k, _ => by cases k
/-- field f of an instance of the class c -/
def dFld (c : String) (f : Str) : D → Option D
  | .inst c' fs => if c' = c then fs.lookup f else none
  | _ => none
theorem fld_ra {K : PySem.W.Frag} {F H : Hp} {v : V} {x d : D} {c : String} {f : Str} {C : Addr} (hc : ClsAt K c C) (ex : Same F H) (r : Ra K F H v x) (e : dFld c f x = some d) : ∃ a dx fs u, v = .ref a ∧ H a = some (.ins C dx fs) ∧ fs.lookup f = some u ∧ Rp K F u d := by
  cases r with
  | val r _ =>
    cases r with
    | inst h1 h2 h3 h4 =>
      unfold dFld at e
      dsimp only at e
      split at e
      · rename_i hcc
        subst hcc
        obtain rfl := hc.uniq h1
        obtain ⟨u, k1, k2⟩ := (look_rel h3 h4).1 d e
        exact ⟨_, _, _, u, rfl, ex _ _ h2, k1, k2⟩
      · cases e
    | _ => cases e
  | own h1 h2 ro =>
    cases ro with
    | ins h3 h4 h5 =>
      unfold dFld at e
      dsimp only at e
      split at e
      · rename_i hcc
        subst hcc
        obtain rfl := hc.uniq h3
        obtain ⟨u, k1, k2⟩ := (look_rel h4 h5).1 d e
        exact ⟨_, _, _, u, rfl, h2, k1, k2⟩
      · cases e
    | _ => cases e
theorem nofx_fld {c : String} {f : Str} {x d : D} (e : dFld c f x = some d) : nofx x = true := by
  cases x with
  | inst _ _ => rfl
  | _ => cases e
section
variable {X : Cx} {E : EW} {fr : Bool} {cv : String → Value} {W : WX} {pos : Pos}
/-- o.f -/
theorem xe_fld {c : String} {C : Addr} {f : Str} {o : Expr} {te : XV} (hc : ClsAt X.K c C) (cl : Cls X.K C) (na : NoAttr X.K C f) (he : PE X o (lE X.K E te)) (hb : attributeBase o f X.env (eval o X.env) = eval o X.env := by rfl) : PE X (.Attribute o f pos) (lE X.K E (xOp1 (dFld c f) te)) := by
  refine pe_imp (pe_fld he hb) fun σ H Q h => ?_
  obtain ⟨F, ρ, r, p⟩ := h
  refine ⟨F, ρ, r, (Pend.bind r p).mono fun x ρ1 F1 H1 g1 q v rv => ?_⟩
  obtain ⟨d, e, q⟩ := q.lift
  obtain ⟨a, dx, fs, u, k1, k2, k3, k4⟩ := fld_ra hc g1.rel.ex (.val rv (nofx_fld e)) e
  exact ⟨a, C, dx, fs, u, k1, k2, cl, na, k3, q F1 H1 (Go.refl g1.rel) u k4⟩
/-- .. of an object that a slot holds -/
def xFldO (c : String) (f : Str) (i : Nat) : XV := fun ρ => match rdD i ρ with
  | some x => lift (dFld c f) x ρ
  | none => .bad
theorem xe_fldO {c : String} {C : Addr} {f : Str} {o : Expr} {i : Nat} (hc : ClsAt X.K c C) (cl : Cls X.K C) (na : NoAttr X.K C f) (he : PE X o (tVar i)) (hb : attributeBase o f X.env (eval o X.env) = eval o X.env := by rfl) : PE X (.Attribute o f pos) (lE X.K E (xFldO c f i)) := by
  refine pe_imp (pe_fld he hb) fun σ H Q h => ?_
  obtain ⟨F, ρ, r, p⟩ := h
  cases e0 : rdD i ρ with
  | none => unfold Pend xFldO at p; simp only [e0] at p
  | some x =>
    have p' : Pend X.K E (lift (dFld c f) x) ρ σ F H fun d _ F' H' => ∀ v, Rp X.K F' v d → Q v H' := by
      unfold Pend xFldO at p
      simp only [e0] at p
      exact p
    obtain ⟨d, e, q⟩ := p'.lift
    obtain ⟨v, h1, h2⟩ := r.rd e0
    obtain ⟨a, dx, fs, u, k1, k2, k3, k4⟩ := fld_ra hc r.ex h2 e
    exact ⟨v, h1, a, C, dx, fs, u, k1, k2, cl, na, k3, q F H (Go.refl r) u k4⟩
/-- self.f = e -/
def setF2 (c : String) (f : Str) (i : Nat) (d : D) (ρ : Rho) : Option D → Fl
  | some (.inst c' fs) => if c' = c ∧ fs.length < 1000 then .nx (ρ.set i (.own (.inst c' (putD f d fs)))) else .bad
  | _ => .bad
def setF1 (c : String) (f : Str) (i : Nat) : D → Rho → Fl := fun d ρ => setF2 c f i d ρ (ownD i ρ)
def xSetF (c : String) (f : Str) (i : Nat) (te : XV) : XS := fun ρ => (te ρ).fl (setF1 c f i)
theorem xs_setF {c : String} {C : Addr} {f : Str} {o value : Expr} {i : Nat} {te : XV} {pos' : Pos} (hc : ClsAt X.K c C) (cl : Cls X.K C) (na : NoAttr X.K C f) (ho : PE X o (tVar i)) (he : PE X value (lE X.K E te)) (hs : swapsWith value (some (.Attribute o f pos')) pos.line X.env = pure false := by rfl) :
    PS X (.Assign [.Attribute o f pos'] value pos) (lS X.K E fr (xSetF c f i te)) := by
  refine ps_imp (ps_fld ho he hs) fun D σ H h => ?_
  obtain ⟨F, ρ, r, p⟩ := h
  refine ⟨F, ρ, r, (p.fl r).mono fun d ρ1 F1 H1 g q v rv => ?_⟩
  unfold PendS setF1 setF2 at q
  split at q
  · rename_i ρ' e
    split at e
    · rename_i c' fs hown
      split at e
      · rename_i hcc
        obtain ⟨rfl, hlen⟩ := hcc
        cases e
        obtain ⟨a, o, k1, k2, k3, k4⟩ := g.rel.own (ownD_of hown)
        cases k4 with
        | @ins C' dx _ fv _ m1 m2 m3 =>
          obtain rfl := hc.uniq m1
          obtain ⟨n1, n2⟩ := putD_rel (f := f) rv m2 m3
          have hl : fv.length < 1000 := by
            have := congrArg List.length m2
            rw [List.length_map, List.length_map] at this
            omega
          exact ⟨.ref a, k1, a, C, dx, fv, rfl, k3, cl, na, hl, q σ F1 _ (Go.mut g.rel (ownD_of hown) k1 k2 k3 (.ins m1 n1 n2))⟩
      · cases e
    · cases e
  all_goals first | exact q.elim | (rename_i e; split at e <;> first | (split at e <;> first | exact q.elim | (cases e; done)) | (cases e; done) | (cases e; exact q.elim))
def tMethS (C : Addr) (m : Str) (sp : Sp) (E : L2.St → XK) (ta : TE) (t : TA) : TE := fun σ H Q => ta σ H fun x H1 => ∃ a dx fs, x = .ref a ∧ H1 a = some (.ins C dx fs) ∧ fs.lookup m = none ∧ t σ H1 fun vs H2 => sp (x :: vs) H2 Q (E σ)
theorem pe_methS {CX : CXT} {k : Nat} {C f : Addr} {fd : FuncData} {ps : List Str} {sp : Sp} {E' : L2.St → XK} {m : Str} {o e : Expr} {es : List Expr} {ta : TE} {t : TA} {apos : Pos} {pl : Sem Bool} (he : PE X o ta) (c : Cls X.K C) (hm : Meth X.K C m f) (FN : FnOk X.prog X.w X.K X.mg X.base CX k f fd ps sp) (hr : Room k X.A) (hb : Binds X.K fd ps []) (hx : ∀ σ, PassesAt CX X σ (E' σ)) (ha : PA X (e :: es) t)
    (hst : starEach (e :: es) X.env = (false, eval e X.env) :: starEach es X.env := by rfl) (hpl : (backTo pos (starEach es X.env)).any (·.1) = false := by rfl)
    (ht : eval (.Call (.Attribute o m apos) (e :: es) [] pos) X.env = (do
      let w ← eval o X.env
      standAt apos.atName
      let (g, first) ← holding [w] (getMethod w m pl)
      callWith pos g first (backTo pos (starEach (e :: es) X.env)) (backToKw pos (keywordEach [] X.env))) := by rfl) : PE X (.Call (.Attribute o m apos) (e :: es) [] pos) (tMethS C m sp E' ta t) := by
  constructor
  intro pins s σ H Q I h
  refine PySem.W.methodCall_KW (pl := pl) (thn (he.run pins s σ H _ I h) fun u s1 hu => ?_) ht
  obtain ⟨x, H1, I1, rx, a, dx, fs, rfl, ea, l, q⟩ := hu
  obtain rfl : u = Value.ref a := rx
  refine getmeth_ok I1 ea c hm l (PySem.W.callWith_K (first := [.ref a]) (h₀ := X.base) I.ok.mod.kin hm.kp (thn (ha.run pos pins s1 σ H1 _ I1 q) fun us s2 hv => ?_) hst hpl)
  obtain ⟨vs, H2, I2, r, q2⟩ := hv
  exact ⟨I2.kIn, run_fnS (us := .ref a :: us) (vs := .ref a :: vs) FN hr hb (hx σ) I2 (.cons rfl r) q2⟩
theorem pe_methS0 {CX : CXT} {k : Nat} {C f : Addr} {fd : FuncData} {ps : List Str} {sp : Sp} {E' : L2.St → XK} {m : Str} {o : Expr} {ta : TE} {apos : Pos} {pl : Sem Bool} (he : PE X o ta) (c : Cls X.K C) (hm : Meth X.K C m f) (FN : FnOk X.prog X.w X.K X.mg X.base CX k f fd ps sp) (hr : Room k X.A) (hb : Binds X.K fd ps []) (hx : ∀ σ, PassesAt CX X σ (E' σ))
    (ht : eval (.Call (.Attribute o m apos) [] [] pos) X.env = (do
      let w ← eval o X.env
      standAt apos.atName
      let (g, first) ← holding [w] (getMethod w m pl)
      callWith pos g first (backTo pos (starEach [] X.env)) (backToKw pos (keywordEach [] X.env))) := by rfl) : PE X (.Call (.Attribute o m apos) [] [] pos) (tMethS C m sp E' ta tNil) := by
  constructor
  intro pins s σ H Q I h
  refine PySem.W.methodCall_KW (pl := pl) (thn (he.run pins s σ H _ I h) fun u s1 hu => ?_) ht
  obtain ⟨x, H1, I1, rx, a, dx, fs, rfl, ea, l, q⟩ := hu
  obtain rfl : u = Value.ref a := rx
  exact getmeth_ok I1 ea c hm l (PySem.W.callWith_K0 (first := [.ref a]) I1.kIn hm.kp (run_fnS (us := [.ref a]) (vs := [.ref a]) FN hr hb (hx σ) I1 (.cons rfl .nil) q))
/-- an instance of c without a field m -/
def isIns (c : String) (m : Str) : D → Bool
  | .inst c' fs => decide (c' = c) && (fs.lookup m).isNone
  | _ => false
theorem isIns_of {c : String} {m : Str} {x : D} {C : Addr} {K : PySem.W.Frag} {F H : Hp} {v : V} (hc : ClsAt K c C) (ex : Same F H) (h : isIns c m x = true) (r : Rp K F v x) : ∃ a dx fs, v = .ref a ∧ H a = some (.ins C dx fs) ∧ fs.lookup m = none := by
  cases r with
  | inst h1 h2 h3 h4 =>
    unfold isIns at h
    rw [Bool.and_eq_true, decide_eq_true_eq] at h
    obtain ⟨rfl, hn⟩ := h
    obtain rfl := hc.uniq h1
    exact ⟨_, _, _, rfl, ex _ _ h2, (look_rel h3 h4).2 (Option.isNone_iff_eq_none.mp hn)⟩
  | _ => cases h
def meth2 (g : DF) (d : D) : List D → Rho → Res D := fun ds ρ => (g (d :: ds)).res ρ
def meth1 (c : String) (m : Str) (g : DF) (t : XA) : D → Rho → Res D := fun d ρ => if isIns c m d = true then (t ρ).bind (meth2 g d) else .bad
/-- o.m(..) -/
def xMeth (c : String) (m : Str) (g : DF) (te : XV) (t : XA) : XV := fun ρ => (te ρ).bind (meth1 c m g t)
theorem meth_of {frc : Bool} {c : String} {m : Str} {C : Addr} {ban : Nat} {md : List Bool} {g : DF} {te : XV} {t : XA} {σ : L2.St} {H : Hp} {Q : VK} (hc : ClsAt X.K c C)
    (h : ∃ F ρ, Rel X.K F H ρ σ ∧ Pend X.K (EWx cv W) (xMeth c m g te t) ρ σ F H fun d ρ' F' H' => (frc = false → ∀ v, Rp X.K F' v d → Q v H') ∧ (frc = true → ∀ p o, F' p = none → H' p = some o → Ro X.K F' p o d → ¬ Own ρ' σ p → (Own ρ σ p ∨ H p = none) → Q (.ref p) H')) :
    tMethS C m (spP X.K cv frc (false :: md) g) (WE W) (lE X.K (EWx cv W) te) (lM X.K (EWx cv W) ban md t) σ H Q := by
  obtain ⟨F, ρ, r, p⟩ := h
  refine ⟨F, ρ, r, (Pend.bind r p).mono fun x ρ1 F1 H1 g1 q v rv => ?_⟩
  by_cases hi : isIns c m x = true
  rotate_left
  · unfold Pend meth1 at q
    simp only [hi] at q
    exact q.elim
  obtain ⟨a, dx, fs, rfl, k2, k3⟩ := isIns_of hc g1.rel.ex hi rv
  have q' : Pend X.K (EWx cv W) (fun ρ => (t ρ).bind (meth2 g x)) ρ1 σ F1 H1 fun d ρ' F' H' => (frc = false → ∀ v, Rp X.K F' v d → Q v H') ∧ (frc = true → ∀ p o, F' p = none → H' p = some o → Ro X.K F' p o d → ¬ Own ρ' σ p → (Own ρ σ p ∨ H p = none) → Q (.ref p) H') := by
    unfold Pend meth1 at q
    simp only [hi, if_true] at q
    exact q
  refine ⟨a, dx, fs, rfl, k2, k3, F1, ρ1, g1.rel, (Pend.bind g1.rel q').mono fun ds ρ2 F2 H2 g2 q2 vs ra => ⟨F2, x :: ds, g2.rel.ex, .val (rv.mono g2.ex) (ra.ral g2.rel), ?_⟩⟩
  unfold Pend meth2 FR.res at q2
  cases e : g (x :: ds) with
  | ok d ps =>
    simp only [e] at q2
    exact ⟨fun ef => outV_of g2.rel fun F' H' g3 v rv => (q2 F' H' g3).1 ef v rv, fun ef => outN_of r (g1.trans r g2) fun F' H' g3 p o z1 z2 z3 z4 z5 => (q2 F' H' g3).2 ef p o z1 z2 z3 z4 z5⟩
  | exc c ps => simp only [e] at q2; exact fun F' H' gr => q2 F' H' (gr.go g2.rel)
  | bad => simp only [e] at q2
theorem lE_meth {c : String} {m : Str} {g : DF} {te : XV} {t : XA} {σ : L2.St} {H : Hp} {Q : VK} (h : lE X.K (EWx cv W) (xMeth c m g te t) σ H Q) : ∃ F ρ, Rel X.K F H ρ σ ∧ Pend X.K (EWx cv W) (xMeth c m g te t) ρ σ F H fun d ρ' F' H' => (false = false → ∀ v, Rp X.K F' v d → Q v H') ∧ (false = true → ∀ p o, F' p = none → H' p = some o → Ro X.K F' p o d → ¬ Own ρ' σ p → (Own ρ σ p ∨ H p = none) → Q (.ref p) H') := by
  obtain ⟨F, ρ, r, p⟩ := h
  exact ⟨F, ρ, r, p.mono fun d ρ' F' H' _ q => ⟨fun _ => q, fun z => (by cases z)⟩⟩
theorem lN_meth {c : String} {m : Str} {g : DF} {te : XV} {t : XA} {σ : L2.St} {H : Hp} {Q : VK} (h : lN X.K (EWx cv W) (xMeth c m g te t) σ H Q) : ∃ F ρ, Rel X.K F H ρ σ ∧ Pend X.K (EWx cv W) (xMeth c m g te t) ρ σ F H fun d ρ' F' H' => (true = false → ∀ v, Rp X.K F' v d → Q v H') ∧ (true = true → ∀ p o, F' p = none → H' p = some o → Ro X.K F' p o d → ¬ Own ρ' σ p → (Own ρ σ p ∨ H p = none) → Q (.ref p) H') := by
  obtain ⟨F, ρ, r, p⟩ := h
  exact ⟨F, ρ, r, p.mono fun d ρ' F' H' _ q => ⟨fun z => (by cases z), fun _ => q⟩⟩
theorem nilM {C : Addr} {m : Str} {ban : Nat} {E : EW} {sp : Sp} {E' : L2.St → XK} {ta : TE} {σ : L2.St} {H : Hp} {Q : VK} (mono : ∀ σ H Q Q', ta σ H Q → (∀ v H', Q v H' → Q' v H') → ta σ H Q') (h : tMethS C m sp E' ta (lM X.K E ban [] xNil) σ H Q) : tMethS C m sp E' ta tNil σ H Q := by
  refine mono _ _ _ _ h fun v H1 q => ?_
  obtain ⟨a, dx, fs, e, k1, k2, F, ρ, r, p⟩ := q
  exact ⟨a, dx, fs, e, k1, k2, p F H1 (Go.refl r) [] .nil⟩
theorem lE_mono {te : XV} {E : EW} {σ : L2.St} {H : Hp} {Q Q' : VK} (h : lE X.K E te σ H Q) (k : ∀ v H', Q v H' → Q' v H') : lE X.K E te σ H Q' := by
  obtain ⟨F, ρ, r, p⟩ := h
  exact ⟨F, ρ, r, p.mono fun d ρ' F' H' _ q v rv => k v H' (q v rv)⟩
section
variable {c : String} {C : Addr} {ban : Nat} {md : List Bool} {k : Nat} {f : Addr} {fd : FuncData} {ps : List Str} {g : DF} {m : Str} {o e : Expr} {es : List Expr} {te : XV} {t : XA} {apos : Pos} {pl : Sem Bool}
theorem xn_meth (hc : ClsAt X.K c C) (cl : Cls X.K C) (hm : Meth X.K C m f) (tk : Takes X W) (FN : FnOk X.prog X.w X.K X.mg X.base (L2.CX X.prog X.w) k f fd ps (spP X.K cv true (false :: md) g)) (hr : Room k X.A) (hb : Binds X.K fd ps []) (he : PE X o (lE X.K (EWx cv W) te)) (ha : PA X (e :: es) (lM X.K (EWx cv W) ban md t))
    (hst : starEach (e :: es) X.env = (false, eval e X.env) :: starEach es X.env := by rfl) (hpl : (backTo pos (starEach es X.env)).any (·.1) = false := by rfl)
    (ht : eval (.Call (.Attribute o m apos) (e :: es) [] pos) X.env = (do
      let w ← eval o X.env
      standAt apos.atName
      let (g, first) ← holding [w] (getMethod w m pl)
      callWith pos g first (backTo pos (starEach (e :: es) X.env)) (backToKw pos (keywordEach [] X.env))) := by rfl) : PE X (.Call (.Attribute o m apos) (e :: es) [] pos) (lN X.K (EWx cv W) (xMeth c m g te t)) :=
  pe_imp (pe_methS (pl := pl) he cl hm FN hr hb (passAt tk) ha hst hpl ht) fun σ H Q h => meth_of hc (lN_meth h)
theorem xe_meth0 (hc : ClsAt X.K c C) (cl : Cls X.K C) (hm : Meth X.K C m f) (tk : Takes X W) (FN : FnOk X.prog X.w X.K X.mg X.base (L2.CX X.prog X.w) k f fd ps (spP X.K cv false [false] g)) (hr : Room k X.A) (hb : Binds X.K fd ps []) (he : PE X o (lE X.K (EWx cv W) te))
    (ht : eval (.Call (.Attribute o m apos) [] [] pos) X.env = (do
      let w ← eval o X.env
      standAt apos.atName
      let (g, first) ← holding [w] (getMethod w m pl)
      callWith pos g first (backTo pos (starEach [] X.env)) (backToKw pos (keywordEach [] X.env))) := by rfl) : PE X (.Call (.Attribute o m apos) [] [] pos) (lE X.K (EWx cv W) (xMeth c m g te xNil)) :=
  pe_imp (pe_methS0 (pl := pl) he cl hm FN hr hb (passAt tk) ht) fun σ H Q h => nilM (ban := 0) (fun _ _ _ _ h k => lE_mono h k) (meth_of hc (lE_meth h))
end
def tMakeS (C : Addr) (sp : Sp) (E : L2.St → XK) (t : TA) : TE := fun σ H Q => t σ H fun vs H1 => ∀ x dx, H1 x = none → H1 dx = none → dx ≠ x → sp (.ref x :: vs) (upd (upd H1 dx (.own x)) x (.ins C dx [])) (fun v H2 => v = .non ∧ Q (.ref x) H2) (E σ)
theorem run_makeS {CX : CXT} {k : Nat} {C f : Addr} {fd : FuncData} {ps : List Str} {sp : Sp} {E' : L2.St → XK} {pins : List (Addr × Obj)} {σ : L2.St} {H : Hp} {s : Shared} {Q : VK} {us : List Value} {vs : List V} (M : Mk X.K C f) (FN : FnOk X.prog X.w X.K X.mg X.base CX k f fd ps sp) (hr : Room (k + 1) X.A) (hb : Binds X.K fd ps []) (hx : PassesAt CX X σ (E' σ)) (I : L2.Inv X pins σ H s) (r : Vals vs us)
    (h : ∀ x dx, H x = none → H dx = none → dx ≠ x → sp (.ref x :: vs) (upd (upd H dx (.own x)) x (.ins C dx [])) (fun v H2 => v = .non ∧ Q (.ref x) H2) (E' σ)) : wpAny (model X.prog X.w) X.A (call (.ref C) us) (EP X pins σ Q) X.xe s := by
  have I2 := Inv.made (C := C) I
  have sp0 := h _ _ (I.hok.fresh (Nat.le_succ _)) (I.hok.fresh (Nat.le_refl _)) (Nat.ne_of_lt (Nat.lt_succ_self _))
  have rv : Vals (V.ref (s.heap.objs.size + 1) :: vs) (Value.ref (s.heap.objs.size + 1) :: us) := .cons rfl r
  have hl : (Value.ref (s.heap.objs.size + 1) :: us).length = ps.length := by rw [← rv.length]; exact FN.len _ _ _ _ sp0
  have bd := hb _ (Value.ref (s.heap.objs.size + 1) :: us) I2.kIn (by rw [List.append_nil]; exact hl)
  rw [List.append_nil] at bd
  refine wpAny_call (make_map (f := f) I.kIn M.makes M.init (beq_iff_eq.mp M.fn) (codeAny_mono (FN.run _ X.stack _ _ ⟨Value.ref (s.heap.objs.size + 1) :: us, []⟩ _ _ _ _ (hr.make C us []) (I2.env0.make C us []) bd rv sp0) fun res s' hres => ?_))
  rcases res with e | fl
  · exact hx pins _ _ e s' I2 hres
  · cases fl with
    | ret u =>
      obtain ⟨v, H', I3, ru, rfl, q⟩ := I2.after hres
      exact ⟨ru, ⟨V.ref (s.heap.objs.size + 1), H', I3, rfl, q⟩⟩
    | next => exact hres.elim
    | brk => exact hres.elim
    | cont => exact hres.elim
theorem pe_makeS {CX : CXT} {k : Nat} {C f : Addr} {fd : FuncData} {ps : List Str} {sp : Sp} {E' : L2.St → XK} {x : Str} {p : Pos} {e : Expr} {es : List Expr} {t : TA} (M : Mk X.K C f) (FN : FnOk X.prog X.w X.K X.mg X.base CX k f fd ps sp) (hr : Room (k + 1) X.A) (hg : Gl X x) (hm : X.mg x = some (.ref C)) (hb : Binds X.K fd ps []) (hx : ∀ σ, PassesAt CX X σ (E' σ)) (ha : PA X (e :: es) t)
    (hdb : (x == ("__debug__" : Str)) = false := by decide) (he : starEach (e :: es) X.env = (false, eval e X.env) :: starEach es X.env := by rfl) (hpl : (backTo pos (starEach es X.env)).any (·.1) = false := by rfl) : PE X (.Call (.Name x p) (e :: es) [] pos) (tMakeS C sp E' t) := by
  constructor
  intro pins s σ H Q I h
  refine wpAny_Call_Name_kw (ld_glob I hg hm (PySem.W.callWith_K (h₀ := X.base) I.ok.mod.kin M.kp (thn (ha.run pos pins s σ H _ I h) fun us s1 hv => ?_) he hpl) hdb)
  obtain ⟨vs, H1, I1, r, q⟩ := hv
  exact ⟨I1.kIn, run_makeS M FN hr hb (hx σ) I1 r q⟩
def make1 (r : FR) (ρ : Rho) : Res D := match r with
  | .ok .non [p] => .ok p ρ
  | .exc c [_] => .exc c ρ
  | _ => .bad
def make0 (c : String) (g : DF) : List D → Rho → Res D := fun ds ρ => make1 (g (.inst c [] :: ds)) ρ
def xMake (c : String) (g : DF) (t : XA) : XV := fun ρ => (t ρ).bind (make0 c g)
theorem go_newB {K : PySem.W.Frag} {F H F' H1 H' : Hp} {ρ : Rho} {σ : L2.St} {b : Addr} (r : Rel K F H ρ σ) (hn : H b = none) (g : Gr F H F H1) (gr : GrB b F H1 F' H') : Go K ρ σ F H ρ σ F' H' := by
  have ne : ∀ {a : Addr} {u : HO}, H a = some u → a ≠ b := fun h z => by rw [z, hn] at h; cases h
  have kp : ∀ a u, H a = some u → H' a = some u ∧ (NTup u → F a = none → F' a = none) := fun a u h => gr.keep a u (ne h) (g.exH a u h)
  exact ⟨⟨gr.sub, r.len, fun i s o h1 h2 => (r.at' i s o h1 h2).step gr.ex fun p u n _ e1 e2 => ⟨(kp p u e1).1, (kp p u e1).2 n e2⟩, r.dis, r.rdis⟩, gr.ex, fun a u h1 h2 _ => ⟨(kp a u h1).1, fun n => (kp a u h1).2 n h2⟩, fun _ h => .inl h, rfl, fun d h => ⟨d, h⟩, fun _ _ h => ⟨h, rfl⟩⟩
theorem make_of {c : String} {C : Addr} {ban : Nat} {md : List Bool} {g : DF} {t : XA} {σ : L2.St} {H : Hp} {Q : VK} (hc : ClsAt X.K c C) (h : lN X.K (EWx cv W) (xMake c g t) σ H Q) : tMakeS C (spB X.K cv false md g) (WE W) (lM X.K (EWx cv W) ban md t) σ H Q := by
  obtain ⟨F, ρ, r, p⟩ := h
  refine ⟨F, ρ, r, (Pend.bind r p).mono fun ds ρ1 F1 H1 g1 q vs ra x dx hx hdx hne => ?_⟩
  have r1 := g1.rel
  have gA := Gr.newO (o := .own x) r1.ex hdx
  have hx2 : (upd H1 dx (.own x)) x = none := by rw [upd_ne (Ne.symm hne)]; exact hx
  have gB := gA.trans (Gr.newO (o := .ins C dx []) gA.sub hx2)
  have fx : F1 x = none := r1.ex.free hx
  have nx : ∀ (j : Nat) (d : D) (p : Addr), j ≠ ban → rdD j ρ1 = some d → σ[j]? = some (some (.ref p)) → ¬ p = x := fun j d p _ hd hp z => by
    subst z
    obtain ⟨v, e1, e2⟩ := r1.rd hd
    rw [hp] at e1
    cases e1
    cases e2 with
    | val rv nf => exact rp_at rv nf fx
    | own _ z _ => rw [hx] at z; cases z
  refine ⟨F1, x, .ins C dx [], .inst c [], vs, ds, rfl, gB.sub, fx, upd_same, .ins hc rfl .nil, ra.ral' (gB.go r1).rel (fun p z => by rw [z]; exact fx) nx, ?_⟩
  unfold Pend make0 at q
  cases e : g (.inst c [] :: ds) with
  | bad => rw [e] at q; exact q.elim
  | exc k ps =>
    rw [e] at q
    unfold make1 at q
    split at q <;> rename_i e2
    · split at e2
      · rename_i e3
        cases e3
      · cases e2
      · cases e2
    · split at e2
      · cases e2
      · rename_i e3
        cases e3
        cases e2
        exact fun F' H' o' gr _ _ _ => q F' H' (go_newB r1 hx gB gr)
      · cases e2
    · exact q.elim
  | ok d ps =>
    rw [e] at q
    unfold make1 at q
    split at q <;> rename_i e2
    · split at e2
      · rename_i e3
        cases e3
        cases e2
        exact fun F' H' o' gr f1 h1 ro => ⟨fun _ v rv => by cases rv; exact ⟨rfl, q F' H' (go_newB r1 hx gB gr) x o' f1 h1 ro (not_own_new r1 hx) (own_back r g1 (.inr hx))⟩, fun z => (by cases z)⟩
      · cases e2
      · cases e2
    · split at e2
      · cases e2
      · rename_i e3
        cases e3
      · cases e2
    · exact q.elim
theorem xn_make {c : String} {C : Addr} {ban : Nat} {md : List Bool} {k : Nat} {f : Addr} {fd : FuncData} {ps : List Str} {g : DF} {x : Str} {p : Pos} {e : Expr} {es : List Expr} {t : XA} (hc : ClsAt X.K c C) (M : Mk X.K C f) (tk : Takes X W) (FN : FnOk X.prog X.w X.K X.mg X.base (L2.CX X.prog X.w) k f fd ps (spB X.K cv false md g)) (hr : Room (k + 1) X.A) (hg : Gl X x) (hm : X.mg x = some (.ref C)) (hb : Binds X.K fd ps [])
    (ha : PA X (e :: es) (lM X.K (EWx cv W) ban md t)) (hdb : (x == ("__debug__" : Str)) = false := by decide) (he : starEach (e :: es) X.env = (false, eval e X.env) :: starEach es X.env := by rfl) (hpl : (backTo pos (starEach es X.env)).any (·.1) = false := by rfl) : PE X (.Call (.Name x p) (e :: es) [] pos) (lN X.K (EWx cv W) (xMake c g t)) :=
  pe_imp (pe_makeS M FN hr hg hm hb (passAt tk) ha hdb he hpl) fun σ H Q h => make_of hc h
end
section
variable (ρ : Rho) (i : Nat) (te : XV) (t : XA)
theorem zji (c : String) (f : Str) : xFldO c f i ρ = (match rdD i ρ with | some x => lift (dFld c f) x ρ | none => .bad) := rfl
theorem zjj (c : String) (f : Str) : xSetF c f i te ρ = (te ρ).fl (setF1 c f i) := rfl
theorem zjk (c : String) (f : Str) (d : D) : setF1 c f i d ρ = setF2 c f i d ρ (ownD i ρ) := rfl
theorem zjl (c : String) (m : Str) (g : DF) : xMeth c m g te t ρ = (te ρ).bind (meth1 c m g t) := rfl
theorem zjm (g : DF) (d : D) (ds : List D) : meth2 g d ds ρ = (g (d :: ds)).res ρ := rfl
theorem zjn (c : String) (g : DF) : xMake c g t ρ = (t ρ).bind (make0 c g) := rfl
theorem zjo (c : String) (g : DF) (ds : List D) : make0 c g ds ρ = make1 (g (.inst c [] :: ds)) ρ := rfl
theorem zjp (p : D) : make1 (.ok .non [p]) ρ = .ok p ρ := rfl
theorem zjq (c : String) (p : D) : make1 (.exc c [p]) ρ = .exc c ρ := rfl
end
end G


set_option maxHeartbeats 4000000
namespace G
open PySem PySem.Spec PyProof.Rows L2

def rgOk (a b : Int) : Bool := decide (-1000000 ≤ a ∧ a ≤ 1000000 ∧ -1000000 ≤ b ∧ b ≤ 1000000)
theorem rgOk_of {a b : Int} (h : rgOk a b = true) : RgOk a b := by
  have := of_decide_eq_true h
  exact ⟨by omega, by omega, by omega, by omega, by omega⟩
def dRg2L (x y : D) : Option D := match x, y with
  | .int a, .int b => if rgOk a b = true then some (.lst (rangeD a (b - a).toNat)) else none
  | _, _ => none
section
variable {X : Cx} {E : EW} {pos : Pos}
theorem xn_listR2 {e e2 : Expr} {ta tb : XV} {p p2 pos2 : Pos} (hc : X.calm = true) (hg : Gl X "list") (hm : X.mg "list" = none) (hg2 : Gl X "range") (hm2 : X.mg "range" = none) (ha : PE X e (lE X.K E ta)) (hb : PE X e2 (lE X.K E tb))
    (s1 : starEach [e, e2] X.env = (false, eval e X.env) :: starEach [e2] X.env := by rfl) (s3 : starEach [e2] X.env = (false, eval e2 X.env) :: starEach [] X.env := by rfl) (hp : (backTo pos2 (starEach [e2] X.env)).any (·.1) = false := by rfl) (s2 : starEach [.Call (.Name "range" p2) [e, e2] [] pos2] X.env = (false, eval (.Call (.Name "range" p2) [e, e2] [] pos2) X.env) :: starEach [] X.env := by rfl) :
    PE X (.Call (.Name "list" p) [.Call (.Name "range" p2) [e, e2] [] pos2] [] pos) (lN X.K E (xOp2 dRg2L ta tb)) := by
  refine pe_imp (pe_listRg hc hg hm (prg_2 hg2 hm2 ha hb s1 s3 hp) s2) fun σ H Q h => ?_
  obtain ⟨F, ρ, r, p⟩ := h
  refine ⟨F, ρ, r, (Pend.bind r p).mono fun x ρ1 F1 H1 g1 q v rv => ⟨F1, ρ1, g1.rel, (Pend.bind g1.rel q).mono fun y ρ2 F2 H2 g2 q w rw1 => ?_⟩⟩
  obtain ⟨d, ed, q2⟩ := q.lift
  have o := outN_of r (g1.trans r g2) q2
  unfold dRg2L at ed
  split at ed
  · split at ed
    · rename_i hz
      cases ed
      cases rv
      cases rw1
      exact ⟨_, _, rfl, rfl, rgOk_of hz, fun q hq => o.new g2.rel.ex hq (.lst (rg_all _ _))⟩
    · cases ed
  · cases ed
def zipF : List D → List D → List D
  | x :: xs, y :: ys => .tup [x, y] :: zipF xs ys
  | _, _ => []
theorem zipF_get : ∀ (xs ys : List D) (i : Nat), (zipF xs ys)[i]? = (match xs[i]?, ys[i]? with | some x, some y => some (.tup [x, y]) | _, _ => none)
  | [], ys, i => by cases i <;> rfl
  | x :: xs, [], i => by
    show ([] : List D)[i]? = _
    cases h : (x :: xs)[i]? <;> simp
  | x :: xs, y :: ys, 0 => rfl
  | x :: xs, y :: ys, i + 1 => zipF_get xs ys i
theorem zipF_len : ∀ (xs ys : List D), (zipF xs ys).length = min xs.length ys.length
  | [], ys => by simp [zipF]
  | x :: xs, [] => by simp [zipF]
  | x :: xs, y :: ys => by
    show (zipF xs ys).length + 1 = _
    rw [zipF_len xs ys, List.length_cons, List.length_cons]
    omega
theorem zipF_map {α β : Type} (f : α → D) (g : β → D) : ∀ (xs : List α) (ys : List β), zipF (xs.map f) (ys.map g) = (xs.zip ys).map fun p => .tup [f p.1, g p.2]
  | [], ys => rfl
  | x :: xs, [] => rfl
  | x :: xs, y :: ys => by
    show D.tup [f x, g y] :: zipF (xs.map f) (ys.map g) = _
    rw [zipF_map f g xs ys]
    rfl
theorem iters_zip {K : PySem.W.Frag} {ρ : Rho} {σ : L2.St} {F H : Hp} {a b : Addr} {xs ys : List V} {ds es : List D} (h : ∀ ρ2 σ2 F2 H2, Go K ρ σ F H ρ2 σ2 F2 H2 → SqL K H2 a xs) (h' : ∀ ρ2 σ2 F2 H2, Go K ρ σ F H ρ2 σ2 F2 H2 → SqL K H2 b ys) (r : RpAll K F xs ds) (r' : RpAll K F ys es) : Iters K ρ σ F H (zipF ds es) (Itz K a b) := fun ρ2 σ2 F2 H2 g =>
  ⟨fun i d hd => by
    rw [zipF_get] at hd
    cases e1 : ds[i]? with
    | none => rw [e1] at hd; cases hd
    | some x =>
      cases e2 : es[i]? with
      | none => rw [e1, e2] at hd; cases hd
      | some y =>
        rw [e1, e2] at hd
        cases hd
        obtain ⟨v, hv, rv⟩ := r.get e1
        obtain ⟨w, hw, rw1⟩ := r'.get e2
        exact ⟨⟨xs, ys, v, w, h ρ2 σ2 F2 H2 g, h' ρ2 σ2 F2 H2 g, hv, hw⟩, fun z H3 k => by
          obtain ⟨T, v', w', rfl, hT, rfl, k1, k2⟩ := k
          have k1 := k1 xs (h ρ2 σ2 F2 _ g)
          have k2 := k2 ys (h' ρ2 σ2 F2 _ g)
          rw [hv] at k1
          rw [hw] at k2
          cases k1
          cases k2
          have ex := g.ex.trans (Gr.new (o := .tup [v, w]) g.rel.ex hT).ex
          exact ⟨_, Gr.new g.rel.ex hT, .tup upd_same (.cons (rv.mono ex) (.cons (rw1.mono ex) .nil))⟩⟩, fun i hi => ⟨xs, ys, h ρ2 σ2 F2 H2 g, h' ρ2 σ2 F2 H2 g, by
    rw [zipF_len] at hi
    rw [r.length, r'.length]
    omega⟩⟩
def dZip (x y : D) : Option (List D) := match x, y with
  | .lst ds, .lst es => some (zipF ds es)
  | _, _ => none
def xItZ (ta tb : XV) : XA := fun ρ => (ta ρ).bind fun x ρ1 => (tb ρ1).bind (lift (dZip x))
theorem xi_zip {e e2 : Expr} {ta tb : XV} {p tpos : Pos} {elts : List Expr} {kk : Nat} (hg : Gl X "zip") (hm : X.mg "zip" = none) (ha : PE X e (lE X.K E ta)) (hb : PE X e2 (lE X.K E tb)) (s1 : starEach [e, e2] X.env = (false, eval e X.env) :: starEach [e2] X.env := by rfl) (s2 : starEach [e2] X.env = (false, eval e2 X.env) :: starEach [] X.env := by rfl) (hpl : (backTo pos (starEach [e2] X.env)).any (·.1) = false := by rfl) :
    PI X (.Tuple elts kk tpos) (.Call (.Name "zip" p) [e, e2] [] pos) (lI X.K E (xItZ ta tb)) := pi_imp (pi_zip hg hm (pa_cons ha (pa_cons hb pa_nil s2) s1) s1 hpl) fun σ H R h => by
  obtain ⟨F, ρ, r, p⟩ := h
  refine ⟨F, ρ, r, (Pend.bind r p).mono fun x ρ1 F1 H1 g1 q v rv => ⟨F1, ρ1, g1.rel, (Pend.bind g1.rel q).mono fun y ρ2 F2 H2 g2 q w rw1 => ?_⟩⟩
  obtain ⟨d, e, q⟩ := q.lift
  unfold dZip at e
  split at e
  · cases e
    cases rv with
    | lst hf ra =>
      cases rw1 with
      | lst hf2 ra2 => exact ⟨_, _, _, _, rfl, SqL.of (g2.rel.ex _ _ (g2.ex _ _ hf)), SqL.of (g2.rel.ex _ _ hf2), q F2 H2 (Go.refl g2.rel) _ (iters_zip (fun ρ3 σ3 F3 H3 g => SqL.of (g.rel.ex _ _ (g.ex _ _ (g2.ex _ _ hf)))) (fun ρ3 σ3 F3 H3 g => SqL.of (g.rel.ex _ _ (g.ex _ _ hf2))) (ra.mono g2.ex) ra2)⟩
  · cases e
end
section
variable (ρ : Rho) (i : Nat) (ta tb : XV)
theorem zjr {a b : Int} (h : rgOk a b = true) : dRg2L (.int a) (.int b) = some (.lst (rangeD a (b - a).toNat)) := if_pos h
theorem zjt : xItZ ta tb ρ = (ta ρ).bind fun x ρ1 => (tb ρ1).bind (lift (dZip x)) := rfl
theorem zju (ds es : List D) : dZip (.lst ds) (.lst es) = some (zipF ds es) := rfl
end
end G


set_option maxHeartbeats 4000000
namespace G
open PySem PySem.Spec PyProof.Rows L2

section
variable {X : Cx}
end
section
variable {X : Cx} {E : EW} {pos : Pos}
end
section
end
end G


set_option maxHeartbeats 4000000
namespace G
open PySem PySem.Spec PyProof.Rows L2

section
variable {X : Cx} {E : EW} {pos : Pos}
theorem lE_of_test {t : XV} {σ H Q} (h : lT X.K E (xTest t) σ H Q) : lE X.K E t σ H (fun x H' => ∃ k, x = .bl k ∧ Q k H') := by
  obtain ⟨F, ρ, r, p⟩ := h
  refine ⟨F, ρ, r, (Pend.bind r p).mono fun x ρ1 F1 H1 g1 q v rv => ?_⟩
  obtain ⟨c, e, q⟩ := bl_of g1.rel rv q
  exact ⟨c, e, q⟩
theorem chain_imp {f g : D → D → Option D} {r r' : R2} {ta tb tc : XV} (hi : Imp2 X.K f r) (hi' : Imp2 X.K g r') {σ H Q} (h : lE X.K E (xChain f g ta tb tc) σ H Q) : tChain r r' (lE X.K E ta) (lE X.K E tb) (lE X.K E tc) σ H Q := by
  obtain ⟨F, ρ, r, p⟩ := h
  refine ⟨F, ρ, r, (Pend.bind r p).mono fun x ρ1 F1 H1 g1 q v rv => ⟨F1, ρ1, g1.rel, (Pend.bind g1.rel q).mono fun y ρ2 F2 H2 g2 q w rw => ?_⟩⟩
  unfold xChn at q
  split at q
  · rename_i e
    refine hi F2 H2 v w x y _ _ g2.rel.ex (rv.mono g2.ex) rw e (outV_of g2.rel fun F' H' g3 z rz => ?_)
    cases rz
    refine ⟨true, rfl, ?_⟩
    rw [if_pos rfl]
    refine ⟨F', ρ2, g3.rel, (Pend.bind g3.rel (Pend.go g2.rel g3 q)).mono fun w' ρ3 F3 H3 g4 q3 w0 rw0 => ?_⟩
    obtain ⟨d, e2, q3⟩ := q3.lift
    exact hi' F3 H3 w w0 y w' d Q g4.rel.ex ((rw.mono g3.ex).mono g4.ex) rw0 e2 (outV_of g4.rel q3)
  · rename_i e
    refine hi F2 H2 v w x y _ _ g2.rel.ex (rv.mono g2.ex) rw e (outV_of g2.rel fun F' H' g3 z rz => ?_)
    cases rz
    refine ⟨false, rfl, ?_⟩
    rw [if_neg (by decide)]
    exact q F' H' g3 (.bl false) (.bl false)
  · exact q.elim
theorem xt_chain {op op' : CmpOp} {f g : D → D → Option D} {r r' : R2} {a b c : Expr} {ta tb tc : XV} (ho : OpR X (compareOp op) r) (hi : Imp2 X.K f r) (ho' : OpR X (compareOp op') r') (hi' : Imp2 X.K g r') (ha : PE X a (lE X.K E ta)) (hb : PE X b (lE X.K E tb)) (hc : PE X c (lE X.K E tc))
    (hm : lastMarks [op, op'] [b, c] = false := by with_unfolding_all rfl) : PT X (.Compare a [op, op'] [b, c] pos) (lT X.K E (xTest (xChain f g ta tb tc))) :=
  pt_imp (pt_chain ho ho' ha hb hc hm) fun _ _ _ h => chain_imp hi hi' (lE_of_test h)
end
end G


set_option maxHeartbeats 4000000
namespace G
section
open PySem PySem.W PySem.Calls PyProof.Rows PyProof.V PySem.Spec
variable {prog : Program} {w : World} {A : Around} {E : Value → Shared → Prop} {s : Shared}
end
section
open PySem PySem.Spec PyProof.Rows L2
variable {X : Cx}
end
open PySem PySem.Spec PyProof.Rows L2
end G


set_option maxHeartbeats 4000000
namespace G
section
open PySem PySem.W PySem.Calls PyProof.Rows PyProof.V PySem.Spec L2
variable {prog : Program} {w : World} {A : Around} {E : Value → Shared → Prop} {s : Shared}
end
section
open PySem PySem.Spec PyProof.Rows L2
end
end G


set_option maxHeartbeats 4000000
namespace G
open PySem PySem.Spec PyProof.Rows L2
section
variable {X : Cx} {E : EW} {pos : Pos}
theorem pi_alt {tg it : Expr} {t t' : TI} (h : PI X tg it t) (h' : PI X tg it t') : PI X tg it (fun σ H R => t σ H R ∨ t' σ H R) := ⟨fun pins s σ H R I q => q.elim (h.run pins s σ H R I) (h'.run pins s σ H R I)⟩
def xItA (i : Nat) : XA := fun ρ => match ρ[i]? with
  | some (.rd (.dicT _ _)) => xItK i ρ
  | _ => xItO i ρ
theorem xi_any {tg : Expr} {i : Nat} {x : Str} {xp : Pos} (ho : PE X (.Name x xp) (tVar i)) : PI X tg (.Name x xp) (lI X.K E (xItA i)) := pi_imp (pi_alt (xi_keys ho) (xi_own ho)) fun σ H R h => by
  obtain ⟨F, ρ, r, p⟩ := h
  have c : xItA i ρ = xItK i ρ ∨ xItA i ρ = xItO i ρ := by
    unfold xItA
    split
    · exact .inl rfl
    · exact .inr rfl
  rcases c with e | e
  · exact .inl ⟨F, ρ, r, by unfold Pend at p ⊢; rw [e] at p; exact p⟩
  · exact .inr ⟨F, ρ, r, by unfold Pend at p ⊢; rw [e] at p; exact p⟩
def lpopO (i : Nat) (ds : List D) (n : Nat) (ρ : Rho) (o : Option D) : Res D := match o with
  | some d => .ok d (ρ.set i (.own (.lst (ds.eraseIdx n))))
  | none => .bad
def lpopN (i : Nat) (ds : List D) (ρ : Rho) (o : Option Nat) : Res D := match o with
  | some n => lpopO i ds n ρ ds[n]?
  | none => .bad
def lpopK (i : Nat) (ds : List D) (ρ : Rho) : D → Res D
  | .int j => if inR j = true then lpopN i ds ρ (ixN ds.length j) else .bad
  | _ => .bad
def lpopS (i : Nat) (k : D) (ρ : Rho) (o : Option D) : Res D := match o with
  | some (.lst ds) => lpopK i ds ρ k
  | _ => .bad
def lpop1 (i : Nat) : D → Rho → Res D := fun k ρ => lpopS i k ρ (ownD i ρ)
def lpop0 (i : Nat) (tk : XV) (ρ : Rho) (o : Option D) : Res D := match o with
  | some (.lst _) => (tk ρ).bind (lpop1 i)
  | _ => .bad
def xLPop (i : Nat) (tk : XV) : XV := fun ρ => lpop0 i tk ρ (ownD i ρ)
theorem RpAll.erase {K : PySem.W.Frag} {F : Hp} : ∀ {vs : List V} {ds : List D} (n : Nat), RpAll K F vs ds → RpAll K F (vs.eraseIdx n) (ds.eraseIdx n)
  | _, _, _, .nil => by rw [List.eraseIdx_nil, List.eraseIdx_nil]; exact .nil
  | _, _, 0, .cons _ r => r
  | _, _, n + 1, .cons a r => .cons a (RpAll.erase n r)
theorem xe_lpop {i : Nat} {e : Expr} {tk : XV} (hs : PE X e (tBM X.K "list" rPopAt (tVar i) (tCons (lE X.K E tk) tNil))) : PE X e (lE X.K E (xLPop i tk)) := pe_imp hs fun σ H Q h => by
  obtain ⟨F, ρ, r, p⟩ := h
  unfold Pend xLPop at p
  cases e0 : ownD i ρ with
  | none => simp only [e0, lpop0] at p
  | some y0 =>
    cases y0 with
    | lst ds0 =>
      simp only [e0, lpop0] at p
      obtain ⟨a, o0, s0, f0, h0, ro0⟩ := r.own (ownD_of e0)
      obtain ⟨xs0, rfl, h5⟩ := own_lst ro0
      refine ⟨.ref a, s0, .inl ⟨rfl, _, SqL.of h0⟩, F, ρ, r, (Pend.bind r (show Pend X.K E (fun ρ => (tk ρ).bind (lpop1 i)) ρ σ F H _ from p)).mono fun kd ρ1 F1 H1 g1 q w rw1 => ?_⟩
      unfold Pend lpop1 at q
      cases e1 : ownD i ρ1 with
      | none => simp only [e1, lpopS] at q
      | some y1 =>
        obtain ⟨b, o1, s1, f1, h1, ro1⟩ := g1.rel.own (ownD_of e1)
        rw [s0] at s1
        cases s1
        cases y1 with
        | lst ds =>
          simp only [e1, lpopS] at q
          obtain ⟨xs, rfl, h6⟩ := own_lst ro1
          cases kd with
          | int j =>
            by_cases hj0 : inR j = true
            · have hj := (inR_iff j).mp hj0
              simp only [lpopK, if_pos hj0] at q
              cases e2 : ixN ds.length j with
              | none => simp only [e2, lpopN] at q
              | some n =>
                simp only [e2, lpopN] at q
                cases e3 : ds[n]? with
                | none => simp only [e3, lpopO] at q
                | some d =>
                  simp only [e3, lpopO] at q
                  cases rw1
                  obtain ⟨v, hv, rv⟩ := h6.get e3
                  refine ⟨a, xs, j, n, v, rfl, rfl, h1, by omega, by omega, by rw [h6.length]; exact (ixN_seq e2).1, hv, ?_⟩
                  exact q F1 _ (Go.mut g1.rel (ownD_of e1) s0 f1 h1 (.lst (h6.erase n))) v rv
            · simp only [lpopK, if_neg hj0] at q
          | _ => simp only [lpopK] at q
        | _ => simp only [e1, lpopS] at q
    | _ => simp only [e0, lpop0] at p
end
section
variable (ρ : Rho) (i n : Nat) (t : XV) (ds : List D) (es : List (List Key × D)) (z : Bool) (d : D) (j : Int)
def itAO (o : Option Slot) (ρ : Rho) : Res (List D) := match o with
  | some (.rd (.dicT z es)) => itKO (some (.rd (.dicT z es))) ρ
  | o => itO o ρ
theorem zjF : xItA i ρ = itAO ρ[i]? ρ := by
  unfold xItA itAO
  cases h : ρ[i]? with
  | none => simp only [zdv, h]
  | some s =>
    cases s with
    | rd d => cases d <;> simp only [zdv, zhu, h]
    | _ => simp only [zdv, h]
theorem zjG : itAO (some (.rd (.dicT z es))) ρ = itKO (some (.rd (.dicT z es))) ρ := rfl
theorem zjH : itAO (some (.rd (.lst ds))) ρ = itO (some (.rd (.lst ds))) ρ := rfl
theorem zjI : xLPop i t ρ = lpop0 i t ρ (ownD i ρ) := rfl
theorem zjJ : lpop0 i t ρ (some (.lst ds)) = (t ρ).bind (lpop1 i) := rfl
theorem zjK : lpop1 i d ρ = lpopS i d ρ (ownD i ρ) := rfl
theorem zjL : lpopS i d ρ (some (.lst ds)) = lpopK i ds ρ d := rfl
theorem zjM : lpopK i ds ρ (.int j) = if inR j = true then lpopN i ds ρ (ixN ds.length j) else .bad := rfl
theorem zjN : lpopN i ds ρ (some n) = lpopO i ds n ρ ds[n]? := rfl
theorem zjO : lpopO i ds n ρ (some d) = .ok d (ρ.set i (.own (.lst (ds.eraseIdx n)))) := rfl
end
end G


set_option maxHeartbeats 4000000
namespace G
open PySem PySem.Spec PyProof.Rows L2
theorem RpAll.empty {K : PySem.W.Frag} {F : Hp} {xs : List V} {ds : List D} (r : RpAll K F xs ds) : xs.isEmpty = ds.isEmpty := by
  cases r <;> rfl
section
variable {X : Cx} {E : EW} {pos : Pos}
end
section
variable (ρ : Rho) (t u : XV) (d : D)
end
end G


set_option maxHeartbeats 4000000
namespace G
open PySem PySem.Spec PyProof.Rows L2

def ctn (tp : Bool) (vs : List V) : HO := if tp = true then .tup vs else .lst vs
/-- where the region stands: the list or tuple at p, its things at as, flat objects with the data cs -/
structure TG (K : PySem.W.Frag) (ρ0 : Rho) (σ0 : L2.St) (F0 H0 : Hp) (i : Nat) (p : Addr) (tp : Bool) (as : List Addr) (cs : List D) (ρ : Rho) (σ : L2.St) (F H : Hp) : Prop where
  go : Go K ρ0 σ0 F0 H0 (ρ.set i (.adr p)) σ F H
  he : ρ[i]? = some .emp
  np : H0 p = none
  fp : tp = false → F p = none
  hp : H p = some (ctn tp (as.map V.ref))
  op : ¬ Own (ρ.set i (.adr p)) σ p
  nd : as.Nodup
  pa : p ∉ as
  ln : as.length = cs.length
  ch : ∀ (m : Nat) (a : Addr) (d : D), as[m]? = some a → cs[m]? = some d → H0 a = none ∧ F a = none ∧ ¬ Own (ρ.set i (.adr p)) σ a ∧ ∃ o, H a = some o ∧ Ro K F a o d
  i0 : i ≠ 0
section
variable {K : PySem.W.Frag} {ρ0 ρ ρ1 : Rho} {σ0 σ σ1 : L2.St} {F0 H0 F H F1 H1 : Hp} {i : Nat} {p : Addr} {tp : Bool} {as : List Addr} {cs : List D}
theorem TG.lt (t : TG K ρ0 σ0 F0 H0 i p tp as cs ρ σ F H) : i < ρ.length := (List.getElem?_eq_some_iff.mp t.he).1
theorem TG.slot (t : TG K ρ0 σ0 F0 H0 i p tp as cs ρ σ F H) : σ[i]? = some (some (.ref p)) := by
  have hl := t.go.rel.len
  rw [List.length_set] at hl
  have hl2 : i < σ.length := by have := t.lt; omega
  have hs := List.getElem?_eq_getElem hl2
  have z := t.go.rel.at' i (.adr p) _ (List.getElem?_set_self t.lt) hs
  rw [hs]
  generalize σ[i] = o at z ⊢
  cases z
  rfl
/-- an ordinary step with X in its place -/
theorem TG.step (t : TG K ρ0 σ0 F0 H0 i p tp as cs ρ σ F H) (r0 : Rel K F0 H0 ρ0 σ0) (he : ρ1[i]? = some .emp) (g : Go K (ρ.set i (.adr p)) σ F H (ρ1.set i (.adr p)) σ1 F1 H1) : TG K ρ0 σ0 F0 H0 i p tp as cs ρ1 σ1 F1 H1 := by
  have r := t.go.rel
  refine ⟨t.go.trans r0 g, he, t.np, fun h => ?_, g.sameH r t.hp t.op, own_back2 r g t.hp t.op, t.nd, t.pa, t.ln, fun m a d ha hd => ?_, t.i0⟩
  · subst h
    exact (g.keep p _ t.hp (t.fp rfl) t.op).2 nt_lst
  · obtain ⟨x1, x2, x3, o, x4, x5⟩ := t.ch m a d ha hd
    obtain ⟨k1, k2⟩ := g.keep a o x4 x2 x3
    exact ⟨x1, k2 x5.nt, own_back2 r g x4 x3, o, k1, x5.mono g.ex⟩
theorem TG.view (t : TG K ρ0 σ0 F0 H0 i p tp as cs ρ σ F H) : Go K (ρ.set i (.adr p)) σ F H ρ σ F H := by
  have g := t.go.rel.noslot t.i0 t.slot
  have e : ρ.set i .emp = ρ := by
    obtain ⟨hi, q⟩ := List.getElem?_eq_some_iff.mp t.he
    rw [← q]
    exact List.set_getElem_self hi
  rw [e] at g
  exact g
/-- expressions leave all as it was -/
theorem TG.after (t : TG K ρ0 σ0 F0 H0 i p tp as cs ρ σ F H) (r0 : Rel K F0 H0 ρ0 σ0) (he : ρ1[i]? = some .emp) (g : Go K ρ σ F H ρ1 σ F1 H1) : TG K ρ0 σ0 F0 H0 i p tp as cs ρ1 σ F1 H1 :=
  t.step r0 he ((t.view.trans t.go.rel g).trans t.go.rel (g.rel.slotAt t.i0 t.slot))
theorem at_inj {as : List Addr} (h : as.Nodup) : ∀ {m n : Nat} {a : Addr}, as[m]? = some a → as[n]? = some a → m = n := by
  intro m n a h1 h2
  obtain ⟨l1, e1⟩ := List.getElem?_eq_some_iff.mp h1
  obtain ⟨l2, e2⟩ := List.getElem?_eq_some_iff.mp h2
  rcases Nat.lt_trichotomy m n with z | z | z
  · exact absurd (e1.trans e2.symm) (List.pairwise_iff_getElem.mp h m n l1 l2 z)
  · exact z
  · exact absurd (e2.trans e1.symm) (List.pairwise_iff_getElem.mp h n m l2 l1 z)
/-- one thing is changed -/
theorem TG.mut (t : TG K ρ0 σ0 F0 H0 i p tp as cs ρ σ F H) (r0 : Rel K F0 H0 ρ0 σ0) {m : Nat} {a : Addr} {d d' : D} {o' : HO} (ha : as[m]? = some a) (hd : cs[m]? = some d) (ro : Ro K F a o' d') : TG K ρ0 σ0 F0 H0 i p tp as (cs.set m d') ρ σ F (upd H a o') := by
  obtain ⟨x1, x2, x3, o, x4, x5⟩ := t.ch m a d ha hd
  have g := t.go.touch (o' := o') r0 x1 x2 x4 x3
  have pa : p ≠ a := fun z => t.pa (z ▸ List.mem_of_getElem? ha)
  refine ⟨g, t.he, t.np, t.fp, by rw [upd_ne pa]; exact t.hp, t.op, t.nd, t.pa, by rw [List.length_set]; exact t.ln, fun m2 a2 d2 h1 h2 => ?_, t.i0⟩
  by_cases e : m2 = m
  · subst e
    rw [ha] at h1
    cases h1
    rw [List.getElem?_set_self (List.getElem?_eq_some_iff.mp hd).1] at h2
    cases h2
    exact ⟨x1, x2, x3, o', upd_same, ro⟩
  · rw [List.getElem?_set_ne (Ne.symm e)] at h2
    obtain ⟨y1, y2, y3, o2, y4, y5⟩ := t.ch m2 a2 d2 h1 h2
    have na : a2 ≠ a := fun z => e (at_inj t.nd (z ▸ h1) ha)
    exact ⟨y1, y2, y3, o2, by rw [upd_ne na]; exact y4, y5⟩
end
abbrev GS := List D → Rho → Option (List D × Rho)
structure GT (X : Cx) (E : EW) (fr : Bool) (i : Nat) (T : TS) (t : GS) : Prop where
  go : ∀ {ρ0 : Rho} {σ0 : L2.St} {F0 H0 : Hp} {p : Addr} {tp : Bool} {as : List Addr} {cs : List D} {ρ : Rho} {σ : L2.St} {F H : Hp} {cs' : List D} {ρ' : Rho}, Rel X.K F0 H0 ρ0 σ0 → TG X.K ρ0 σ0 F0 H0 i p tp as cs ρ σ F H → t cs ρ = some (cs', ρ') →
  ∀ C : Ends, (∀ σ' F' H', Same F F' → TG X.K ρ0 σ0 F0 H0 i p tp as cs' ρ' σ' F' H' → C.nx σ' H') → T C σ H
def isEmp (i : Nat) (ρ : Rho) : Bool := match ρ[i]? with
  | some .emp => true
  | _ => false
theorem isEmp_of {i : Nat} {ρ : Rho} (h : isEmp i ρ = true) : ρ[i]? = some .emp := by
  unfold isEmp at h
  split at h
  · assumption
  · cases h
/-- what an expression tells, the slot i left out -/
def gk {α β : Type} (i : Nat) (r : Res α) (k : α → Rho → Option β) : Option β := match r with
  | .ok a ρ1 => if isEmp i ρ1 = true then k a ρ1 else none
  | _ => none
theorem gk_of {α β : Type} {i : Nat} {r : Res α} {k : α → Rho → Option β} {b : β} (h : gk i r k = some b) : ∃ a ρ1, r = .ok a ρ1 ∧ ρ1[i]? = some .emp ∧ k a ρ1 = some b := by
  unfold gk at h
  split at h
  · split at h
    · rename_i h2
      exact ⟨_, _, rfl, isEmp_of h2, h⟩
    · cases h
  · cases h
def gSeq (t1 t2 : GS) : GS := fun cs ρ => (t1 cs ρ).bind fun x => t2 x.1 x.2
def gNil : GS := fun cs ρ => some (cs, ρ)
section
variable {X : Cx} {E : EW} {fr : Bool} {i : Nat} {T1 T2 : TS} {t1 t2 : GS}
theorem gt_nil : GT X E fr i tNext gNil := by
  constructor
  intro ρ0 σ0 F0 H0 p tp as cs ρ σ F H cs' ρ' r0 t h C N
  cases h
  exact N _ _ _ (Same.refl F) t
end
def gAt (cs : List D) (j : D) : Option (Nat × D) := match j with
  | .int n => (ixN cs.length n).bind fun m => (cs[m]?).map fun d => (m, d)
  | _ => none
theorem gAt_of {cs : List D} {j d : D} {m : Nat} (h : gAt cs j = some (m, d)) : ∃ n : Int, j = .int n ∧ ixN cs.length n = some m ∧ cs[m]? = some d := by
  unfold gAt at h
  split at h
  · rename_i n
    cases e : ixN cs.length n with
    | none => rw [e] at h; cases h
    | some k =>
      rw [e] at h
      simp only [Option.bind_some] at h
      cases e2 : cs[k]? with
      | none => rw [e2] at h; cases h
      | some d2 =>
        rw [e2] at h
        cases h
        exact ⟨n, rfl, e, e2⟩
  · cases h
/-- X[c].append(e) -/
def gApp (i : Nat) (tc te : XV) : GS := fun cs ρ => gk i (tc ρ) fun j ρ1 => gk i (te ρ1) fun v ρ2 => (gAt cs j).bind fun x => match x.2 with
  | .lst ds => if ds.length < sizeLine then some (cs.set x.1 (.lst (ds ++ [v])), ρ2) else none
  | _ => none
section
variable {X : Cx} {E : EW} {fr : Bool} {i : Nat}
/-- reading X[c] -/
theorem TG.ix {K : PySem.W.Frag} {ρ0 ρ : Rho} {σ0 σ : L2.St} {F0 H0 F H : Hp} {p : Addr} {tp : Bool} {as : List Addr} {cs : List D} (t : TG K ρ0 σ0 F0 H0 i p tp as cs ρ σ F H) {n : Int} {m : Nat} {a : Addr} (hx : ixN cs.length n = some m) (ha : as[m]? = some a) {Q : VK} (q : Q (.ref a) H) : rIx K (.ref p) (.int n) H Q := by
  have hat : atI (as.map V.ref) n = some (.ref a) := by
    unfold atI
    rw [List.length_map, t.ln, hx]
    show (as.map V.ref)[m]? = _
    rw [List.getElem?_map, ha]
    rfl
  have hp := t.hp
  cases tp with
  | true => exact .inr (.inl ⟨p, as.map V.ref, n, .ref a, rfl, rfl, SqT.of hp, hat, q⟩)
  | false => exact .inl ⟨p, as.map V.ref, n, .ref a, rfl, rfl, SqL.of hp, hat, q⟩
theorem as_at {as : List Addr} {cs : List D} (ln : as.length = cs.length) {m : Nat} {d : D} (h : cs[m]? = some d) : ∃ a, as[m]? = some a := by
  obtain ⟨l, _⟩ := List.getElem?_eq_some_iff.mp h
  exact ⟨_, List.getElem?_eq_getElem (by omega)⟩
theorem gt_app {tc te : XV} : GT X E fr i (tDrop (tBM X.K "list" rAppend (tOp (rIx X.K) (tVar i) (lE X.K E tc)) (tCons (lE X.K E te) tNil))) (gApp i tc te) := by
  constructor
  intro ρ0 σ0 F0 H0 p tp as cs ρ σ F H cs' ρ' r0 t h C N
  obtain ⟨j, ρ1, e1, he1, h⟩ := gk_of h
  obtain ⟨v, ρ2, e2, he2, h⟩ := gk_of h
  cases hg : gAt cs j with
  | none => rw [hg] at h; cases h
  | some x =>
  obtain ⟨m, d⟩ := x
  rw [hg] at h
  simp only [Option.bind_some] at h
  split at h
  · rename_i ds
    split at h
    · rename_i hz
      cases h
      obtain ⟨n, rfl, hx, hc⟩ := gAt_of hg
      obtain ⟨a, ha⟩ := as_at t.ln hc
      refine ⟨.ref p, t.slot, F, ρ, t.view.rel, ?_⟩
      unfold Pend
      simp only [e1]
      intro F1 H1 g1 y ry
      have u1 := t.after r0 he1 g1
      cases ry
      refine u1.ix hx ha ?_
      obtain ⟨x1, x2, x3, o, x4, x5⟩ := u1.ch m a _ ha hc
      obtain ⟨xs, rfl, _⟩ := own_lst x5
      refine ⟨.inl ⟨rfl, xs, SqL.of x4⟩, F1, ρ1, u1.view.rel, ?_⟩
      unfold Pend
      simp only [e2]
      intro F2 H2 g2 w rw2
      have u2 := u1.after r0 he2 g2
      obtain ⟨y1, y2, y3, o2, y4, y5⟩ := u2.ch m a _ ha hc
      obtain ⟨ys, rfl, y6⟩ := own_lst y5
      exact ⟨a, ys, w, rfl, rfl, y4, by rw [y6.length]; exact hz, N _ _ _ (g1.ex.trans g2.ex) (u2.mut r0 ha hc (.lst (y6.snoc rw2)))⟩
    · cases h
  · cases h
end
theorem ro_rpG {K : PySem.W.Frag} {F F2 : Hp} {a : Addr} {o : HO} {d : D} (ex : Same F F2) (h : F2 a = some o) (r : Ro K F a o d) : Rp K F2 (.ref a) d := ro_rpF h (r.mono ex)
theorem rpAll_at {K : PySem.W.Frag} {F : Hp} : ∀ {as : List Addr} {cs : List D}, as.length = cs.length → (∀ (m : Nat) (a : Addr) (d : D), as[m]? = some a → cs[m]? = some d → Rp K F (.ref a) d) → RpAll K F (as.map V.ref) cs
  | [], [], _, _ => .nil
  | [], _ :: _, h, _ => by cases h
  | _ :: _, [], h, _ => by cases h
  | a :: as, d :: cs, h, r => .cons (r 0 a d rfl rfl) (rpAll_at (by injection h) fun m a d h1 h2 => r (m + 1) a d h1 h2)
theorem Go.setOwn2 {K : PySem.W.Frag} {F H F1 H1 : Hp} {ρ ρ1 : Rho} {σ σ1 : L2.St} {i : Nat} {p : Addr} {o : HO} {d : D} (h0 : i ≠ 0) (r : Rel K F H ρ σ) (g : Go K ρ σ F H ρ1 σ1 F1 H1) (h1 : F1 p = none) (h2 : H1 p = some o) (h3 : Ro K F1 p o d) (hn : ¬ Own ρ1 σ1 p) (hw : H p = none) :
    Go K ρ σ F H (ρ1.set i (.own d)) (σ1.set i (some (.ref p))) F1 H1 where
  rel := g.rel.setOwn h1 h2 h3 hn fun j e k1 k2 => by
    obtain ⟨k3, k4⟩ := g.rdb j e k1
    rw [k4] at k2
    have z0 := r.at' j _ _ k3 k2
    cases z0 with
    | rd ra =>
      cases ra with
      | own _ y _ => rw [hw] at y; cases y
      | val rp nf => exact rp_at rp nf (r.ex.free hw)
  ex := g.ex
  keep := g.keep
  own := fun q h => by
    obtain ⟨j, e, q1, q2⟩ := h
    rcases get_set q2 with ⟨ej, z⟩ | ⟨hj, q2⟩
    · cases z
      exact .inr hw
    · rcases get_set q1 with ⟨ej, _⟩ | ⟨_, q1⟩
      · exact absurd ej hj
      · exact g.own q ⟨j, e, q1, q2⟩
  low := (List.getElem?_set_ne h0).trans g.low
  lowO := fun d h => by
    obtain ⟨d', h'⟩ := g.lowO d h
    exact ⟨d', by rw [List.getElem?_set_ne h0]; exact h'⟩
  rdb := fun j e h => by
    rcases get_set h with ⟨_, q⟩ | ⟨hj, h⟩
    · cases q
    · obtain ⟨k1, k2⟩ := g.rdb j e h
      exact ⟨k1, (List.getElem?_set_ne hj).trans k2⟩
def clsS (tp : Bool) (cs : List D) : Slot := if tp = true then .val (.tup cs) else .own (.lst cs)
def clsR (i : Nat) (tp : Bool) (cs : List D) (ρ : Rho) : Rho := ρ.set i (clsS tp cs)
section
variable {K : PySem.W.Frag} {ρ0 ρ : Rho} {σ0 σ : L2.St} {F0 H0 F H : Hp} {i : Nat} {p : Addr} {tp : Bool} {as : List Addr} {cs : List D}
theorem TG.close (t : TG K ρ0 σ0 F0 H0 i p tp as cs ρ σ F H) (r0 : Rel K F0 H0 ρ0 σ0) : ∃ F2, Go K ρ0 σ0 F0 H0 (clsR i tp cs ρ) σ F2 H := by
  obtain ⟨F2, hF2⟩ : ∃ F2 : Hp, F2 = fun b => if b ∈ as ∨ (tp = true ∧ b = p) then H b else F b := ⟨_, rfl⟩
  have kid : ∀ b ∈ as, H0 b = none ∧ F b = none ∧ ¬ Own (ρ.set i (.adr p)) σ b ∧ ∃ o d, H b = some o ∧ Ro K F b o d := fun b hb => by
    obtain ⟨m, hm⟩ := List.getElem?_of_mem hb
    have hl : m < cs.length := by have := (List.getElem?_eq_some_iff.mp hm).1; have := t.ln; omega
    obtain ⟨x1, x2, x3, o, x4, x5⟩ := t.ch m b _ hm (List.getElem?_eq_getElem hl)
    exact ⟨x1, x2, x3, o, _, x4, x5⟩
  have at1 : ∀ b, (b ∈ as ∨ (tp = true ∧ b = p)) → F2 b = H b := fun b h => by rw [hF2]; exact if_pos h
  have at2 : ∀ b, ¬ (b ∈ as ∨ (tp = true ∧ b = p)) → F2 b = F b := fun b h => by rw [hF2]; exact if_neg h
  have ex : Same F F2 := fun b o z => by
    by_cases h : b ∈ as ∨ (tp = true ∧ b = p)
    · rw [at1 b h]
      exact t.go.rel.ex b o z
    · rw [at2 b h]
      exact z
  have sub : Same F2 H := fun b o z => by
    by_cases h : b ∈ as ∨ (tp = true ∧ b = p)
    · rw [at1 b h] at z
      exact z
    · rw [at2 b h] at z
      exact t.go.rel.ex b o z
  have gE : Go K ρ0 σ0 F0 H0 ρ σ F H := t.go.trans r0 t.view
  have nO : ∀ b, ¬ Own (ρ.set i (.adr p)) σ b → ¬ Own ρ σ b := fun b z y => z (by
    obtain ⟨k, d, k1, k2⟩ := y
    refine ⟨k, d, ?_, k2⟩
    have hk : i ≠ k := fun e => by subst e; rw [t.he] at k1; cases k1
    rw [List.getElem?_set_ne hk]
    exact k1)
  have gK := Go.know (F2 := F2) r0 gE ex sub fun b o z nf => by
    by_cases h : b ∈ as ∨ (tp = true ∧ b = p)
    · rcases h with h | ⟨_, rfl⟩
      · obtain ⟨x1, _, x3, _⟩ := kid b h
        exact ⟨x1, nO b x3⟩
      · exact ⟨t.np, nO _ t.op⟩
    · rw [at2 b h, nf] at z
      cases z
  have ra : RpAll K F2 (as.map V.ref) cs := rpAll_at t.ln fun m a d h1 h2 => by
    obtain ⟨_, _, _, o, x4, x5⟩ := t.ch m a d h1 h2
    exact ro_rpG ex (by rw [at1 a (.inl (List.mem_of_getElem? h1))]; exact x4) x5
  have es : σ.set i (some (.ref p)) = σ := by
    obtain ⟨hi, q⟩ := List.getElem?_eq_some_iff.mp t.slot
    rw [← q]
    exact List.set_getElem_self hi
  refine ⟨F2, ?_⟩
  unfold clsR clsS
  cases tp with
  | true =>
    rw [if_pos rfl]
    have rv : Rp K F2 (.ref p) (.tup cs) := .tup (by rw [at1 p (.inr ⟨rfl, rfl⟩)]; exact t.hp) ra
    have g := gK.trans r0 (Go.setVal t.i0 gK.rel rv)
    rw [es] at g
    exact g
  | false =>
    rw [if_neg Bool.false_ne_true]
    have f2 : F2 p = none := by rw [at2 p (fun h => h.elim (fun h => t.pa h) fun h => by cases h.1)]; exact t.fp rfl
    have g := Go.setOwn2 (i := i) t.i0 r0 gK f2 t.hp (.lst ra) (nO p t.op) t.np
    rw [es] at g
    exact g
end
/-- the texts from within a region to the block's end -/
structure GE (X : Cx) (E : EW) (fr : Bool) (i : Nat) (tp : Bool) (T : TS) (t : List D → XS) : Prop where
  go : ∀ {ρ0 : Rho} {σ0 : L2.St} {F0 H0 : Hp} {p : Addr} {as : List Addr} {cs : List D} {ρ : Rho} {σ : L2.St} {F H : Hp}, Rel X.K F0 H0 ρ0 σ0 → TG X.K ρ0 σ0 F0 H0 i p tp as cs ρ σ F H →
  ∀ C : Ends, PendS X.K E fr (fun _ => t cs ρ) ρ0 σ0 F0 H0 C → T C σ H
def gThen (t1 : GS) (t2 : List D → XS) : List D → XS := fun cs ρ => match t1 cs ρ with
  | some (cs', ρ') => t2 cs' ρ'
  | none => .bad
def gEnd (i : Nat) (tp : Bool) (u : XS) : List D → XS := fun cs ρ => u (clsR i tp cs ρ)
section
variable {X : Cx} {E : EW} {fr : Bool} {i : Nat} {tp : Bool} {T1 T2 : TS} {t1 : GS} {t2 : List D → XS}
theorem ge_end {u : XS} : GE X E fr i tp (lS X.K E fr u) (gEnd i tp u) := by
  constructor
  intro ρ0 σ0 F0 H0 p as cs ρ σ F H r0 t C q
  obtain ⟨F2, g⟩ := t.close r0
  exact ⟨F2, _, g.rel, PendS.go (t := u) r0 g q⟩
variable {x : Str} {xp pos pos2 : Pos} {rest : List Stmt}
end
section
variable {X : Cx} {E : EW} {i j : Nat}
end
section
variable {i j : Nat} {cs cs' : List D} {ρ ρ1 ρ2 ρ3 : Rho}
theorem gThen_ok {t1 : GS} {t2 : List D → XS} (h : t1 cs ρ = some (cs', ρ1)) : gThen t1 t2 cs ρ = t2 cs' ρ1 := by
  unfold gThen
  rw [h]
theorem gSeq_ok {t1 t2 : GS} {r : Option (List D × Rho)} (h : t1 cs ρ = some (cs', ρ1)) (h2 : t2 cs' ρ1 = r) : gSeq t1 t2 cs ρ = r := by
  unfold gSeq
  rw [h]
  exact h2
theorem gk_ok {α β : Type} {r : Res α} {k : α → Rho → Option β} {a : α} {b : Option β} (h : r = .ok a ρ1) (he : isEmp i ρ1 = true) (hk : k a ρ1 = b) : gk i r k = b := by
  unfold gk
  rw [h]
  simp only [he, if_true]
  exact hk
end
end G


set_option maxHeartbeats 4000000
namespace G
open PySem PySem.Spec PyProof.Rows L2

section
variable {X : Cx} {E : EW}
end
end G


set_option maxHeartbeats 4000000
namespace G
open PySem PySem.Spec PyProof.Rows L2

section
variable {P : Program} {w : World} {K : PySem.W.Frag} {mg : Str → Option Value} {base : Heap} {cv : String → Value} {fr : Bool} {f : Addr} {fd : FuncData} {ps : List Str} {k : Nat} {md : List Bool}
end
end G


set_option maxHeartbeats 4000000
namespace G
open PySem PySem.Spec PyProof.Rows L2

section
variable {X : Cx} {E : EW}
end
end G


set_option maxHeartbeats 4000000
namespace G
section
open PySem PySem.W PySem.Calls PyProof.Rows PyProof.V PySem.Spec
variable {prog : Program} {w : World} {K : Type} [DecidableEq K] {knd : HeapKind prog w K} {A : Around} {E : Value → Shared → Prop} {s : Shared}
end
section
open PySem PySem.Spec PyProof.Rows L2
variable {X : Cx}
end
section
open PySem PySem.Spec PyProof.Rows L2
variable (ρ : Rho) (i : Nat) (t : XS) (es : List (List Key × D)) (d e : D)
end
end G


set_option maxHeartbeats 4000000
namespace G
open PySem PySem.Spec PyProof.Rows L2
end G


set_option maxHeartbeats 4000000
namespace G
open PySem PySem.Spec PyProof.Rows L2
section
variable {X : Cx} {E : EW} {pos : Pos}
end
end G


namespace G
open PySem PySem.Spec PyProof.Rows L2
section
variable {X : Cx} {pos : Pos}
end
end G


namespace G
open PySem PySem.Spec PyProof.Rows L2
end G


set_option maxHeartbeats 4000000
namespace G
open PySem PySem.Spec PyProof.Rows L2

section
variable {K : PySem.W.Frag} {E : EW}
end
end G


set_option maxHeartbeats 4000000
namespace L2
open PySem PySem.Spec PyProof.Rows
section
variable {X : Cx} {tg : Expr}
end
end L2
namespace G
open PySem PySem.Spec PyProof.Rows L2
section
variable {X : Cx} {tg : Expr} {E : EW} {pos : Pos}
end
end G


set_option maxHeartbeats 4000000
namespace G
open PySem PySem.Spec PyProof.Rows L2

section
variable {X : Cx} {E : EW} {pos : Pos} {o e : Expr} {to te : XV}
end
section
variable {X : Cx} {E : EW} {pos : Pos} {o e : Expr} {to te : XV}
end
end G


set_option maxHeartbeats 4000000
namespace G
open PySem PySem.Spec PyProof.Rows L2

end G


set_option maxHeartbeats 4000000
namespace G
open PySem PySem.Spec PyProof.Rows L2

theorem szH {n : Nat} (h : n ≤ 16000000) : n ≤ sizeLine := by rw [sizeLine_eq]; omega
end G


set_option maxHeartbeats 4000000
namespace G
open PySem PySem.Spec PyProof.Rows L2

section
variable {X : Cx}
end
section
variable {X : Cx} {E : EW} {pos : Pos}
end
section
variable (ρ : Rho) (i : Nat)
end
end G


set_option maxHeartbeats 4000000
namespace G
open PySem PySem.Spec PyProof.Rows L2

section
variable {K : PySem.W.Frag} {ρ : Rho} {σ : L2.St} {F H : Hp}
end
section
variable {X : Cx} {E : EW} {fr : Bool} {pos : Pos} {i : Nat}
end
section
variable (ρ : Rho) (i : Nat)
end
end G


set_option maxHeartbeats 4000000
namespace G
open PySem PySem.Spec PyProof.Rows L2

end G


set_option maxHeartbeats 4000000
namespace G
open PySem PySem.Spec PyProof.Rows L2

def noOwnA (ρ : Rho) : Bool := ρ.all fun s => match s with
  | .own _ => false
  | _ => true
structure Kids (K : PySem.W.Frag) (H1 F H : Hp) (as : List Addr) (cs : List D) : Prop where
  nd : as.Nodup
  ln : as.length = cs.length
  ch : ∀ (m : Nat) (a : Addr) (d : D), as[m]? = some a → cs[m]? = some d → H1 a = none ∧ F a = none ∧ ∃ o, H a = some o ∧ Ro K F a o d
theorem Kids.mem {K : PySem.W.Frag} {H1 F H : Hp} {as : List Addr} {cs : List D} (k : Kids K H1 F H as cs) {a : Addr} (h : a ∈ as) : H1 a = none ∧ F a = none ∧ ∃ o, H a = some o := by
  obtain ⟨m, hm⟩ := List.getElem?_of_mem h
  have hl : m < cs.length := by have := (List.getElem?_eq_some_iff.mp hm).1; have := k.ln; omega
  obtain ⟨x1, x2, o, x3, _⟩ := k.ch m a _ hm (List.getElem?_eq_getElem hl)
  exact ⟨x1, x2, o, x3⟩
section
variable {X : Cx} {E : EW} {fr : Bool} {i : Nat} {T : TS} {t : List D → XS}
variable {y : Str} {py spos pos : Pos} {elt tg iter : Expr} {scope : Scope} {own : List (Str × Nat)} {ti : XA} {g : XG} {te : XV} {rest : List Stmt}
end
section
variable {X : Cx} {E : EW} {i j : Nat}
end
section
variable {X : Cx} {E : EW} {fr : Bool} {i : Nat}
end
end G


set_option maxHeartbeats 4000000
namespace G
open PySem PySem.Spec PyProof.Rows L2

section
variable {prog : Program} {w : World} {A : Around} {E : Value → Shared → Prop} {s : Shared}
end
section
variable {X : Cx} {E : EW} {pos : Pos}
end
end G


set_option maxHeartbeats 4000000
namespace G
section
open PySem PySem.W PySem.Calls PyProof.Rows PyProof.V PySem.Spec PySem.SeqAt AutoSeq1 MeetsSeq
variable {prog : Program} {w : World} {A : Around} {E : Value → Shared → Prop} {s : Shared}
end
section
open PySem PySem.Spec PyProof.Rows L2
variable {X : Cx}
end
open PySem PySem.Spec PyProof.Rows L2
end G


set_option maxHeartbeats 4000000
namespace G
open PySem PySem.Spec PyProof.Rows L2

section
variable {X : Cx} {pins : List (Addr × Obj)} {σ : L2.St} {H : Hp} {s : Shared}
end
end G


set_option maxHeartbeats 4000000
namespace G
open PySem PySem.Spec PyProof.Rows L2 LamX

section
variable {X : Cx} {pins : List (Addr × Obj)} {σ : L2.St} {H : Hp} {s : Shared}
end
end G


set_option maxHeartbeats 4000000
namespace G
open PySem PySem.Spec PyProof.Rows L2 LamX

section
variable {P0 : Program} {w : World} {K : PySem.W.Frag} {mg : Str → Option Value} {base : Heap} {cv : String → Value}
end
section
variable {X : Cx} {cv : String → Value} {pos : Pos} {W : WX}
end
end G


set_option maxHeartbeats 4000000
namespace G
open PySem PySem.Spec PyProof.Rows L2 LamX

section
variable {X : Cx} {pins : List (Addr × Obj)} {σ : L2.St} {H : Hp} {s : Shared}
end
section
variable {X : Cx} {E : EW} {pos : Pos}
end
end G


set_option maxHeartbeats 4000000
namespace G
open PySem PySem.Spec PyProof.Rows L2 LamX

end G


set_option maxHeartbeats 4000000
namespace G
open PySem PySem.Spec PyProof.Rows L2 LamX

section
variable {P : Addr} {F1 H1 F' H' : Hp}
end
section
variable {X : Cx} {cv : String → Value} {pos pos2 : Pos} {W : WX} {fr : Bool}
end
section
variable {K : PySem.W.Frag} {E : EW}
end
end G


set_option maxHeartbeats 4000000
namespace G
open PySem PySem.Spec PyProof.Rows L2
section
variable {P : Program} {w : World} {K : PySem.W.Frag} {mg : Str → Option Value} {base : Heap}
end
section
variable {X : Cx} {cv : String → Value} {pos : Pos}
end
end G


set_option maxHeartbeats 4000000
namespace G
open PySem PySem.Spec PyProof.Rows L2

section
variable {K : PySem.W.Frag} {F H F' H' : Hp} {ρ : Rho} {σ : L2.St}
end
section
variable {P : Program} {w : World} {K : PySem.W.Frag} {mg : Str → Option Value} {base : Heap} {cv : String → Value}
end
section
variable {X : Cx} {cv : String → Value} {pos : Pos} {W : WX}
end
section
variable {X : Cx} {E : EW} {pos : Pos} {fr : Bool}
end
open Classical in
section
variable {X : Cx} {cv : String → Value} {pos : Pos} {W : WX}
end
end G


set_option maxHeartbeats 4000000
namespace G
open PySem PySem.Spec PyProof.Rows L2

section
variable {K : PySem.W.Frag} {E : EW} {fr : Bool} {i : Nat} {ρ1 : Rho} {σ : L2.St} {F1 H1 F' H' H2 : Hp} {v : V} {d : D}
end
section
variable {X : Cx} {cv : String → Value} {pos : Pos} {W : WX} {fr : Bool}
end
end G


set_option maxHeartbeats 4000000
namespace G
open PySem PySem.Spec PyProof.Rows L2

section
variable {K : PySem.W.Frag} {E : EW}
end
end G


set_option maxHeartbeats 4000000
namespace G
open PySem PySem.Spec PyProof.Rows L2

def ownF : D → Bool
  | .dicT false _ => true
  | _ => false
/-- what its fields hold: values, and dicts of its own at these places -/
inductive Flds (K : PySem.W.Frag) (F H : Hp) : List V → List D → List Addr → Prop
  | nil : Flds K F H [] [] []
  | val {v : V} {vs : List V} {d : D} {ds : List D} {as : List Addr} : ownF d = false → Rp K F v d → Flds K F H vs ds as → Flds K F H (v :: vs) (d :: ds) as
  | own {q : Addr} {o : HO} {vs : List V} {d : D} {ds : List D} {as : List Addr} : ownF d = true → F q = none → H q = some o → Ro K F q o d → Flds K F H vs ds as → Flds K F H (.ref q :: vs) (d :: ds) (q :: as)
structure Cmp (K : PySem.W.Frag) (F H : Hp) (p : Addr) (as : List Addr) (gd : D) : Prop where
  ex : ∃ (C dx : Addr) (c : String) (fs : List (Str × V)) (es : List (Str × D)), gd = .inst c es ∧ ClsAt K c C ∧ H p = some (.ins C dx fs) ∧ fs.map (·.1) = es.map (·.1) ∧ Flds K F H (fs.map (·.2)) (es.map (·.2)) as
  fp : F p = none
  nd : (p :: as).Nodup
theorem ownF_ro {K : PySem.W.Frag} {F : Hp} {q : Addr} {o : HO} {d : D} (h : ownF d = true) (ro : Ro K F q o d) : ∃ kvs, o = .dT kvs := by
  cases ro with
  | @dicT z _ kvs _ _ _ =>
    cases z with
    | false => exact ⟨kvs, rfl⟩
    | true => cases h
  | _ => cases h
section
variable {K : PySem.W.Frag} {F F' H H' : Hp}
theorem Flds.has : ∀ {vs : List V} {ds : List D} {as : List Addr}, Flds K F H vs ds as → ∀ q ∈ as, F q = none ∧ ∃ kvs, H q = some (.dT kvs)
  | _, _, _, .nil, q, h => absurd h List.not_mem_nil
  | _, _, _, .val _ _ t, q, h => t.has q h
  | _, _, _, .own o1 f1 h1 r1 t, q, h => by
    rcases List.mem_cons.mp h with rfl | h
    · obtain ⟨kvs, rfl⟩ := ownF_ro o1 r1
      exact ⟨f1, kvs, h1⟩
    · exact t.has q h
theorem Flds.mono (ex : Same F F') (k : ∀ q o, F q = none → H q = some o → NTup o → (∃ kvs, o = .dT kvs) → F' q = none ∧ H' q = some o) : ∀ {vs : List V} {ds : List D} {as : List Addr}, Flds K F H vs ds as → Flds K F' H' vs ds as
  | _, _, _, .nil => .nil
  | _, _, _, .val o1 r t => .val o1 (r.mono ex) (t.mono ex k)
  | _, _, _, .own o1 f1 h1 r1 t => .own o1 (k _ _ f1 h1 r1.nt (ownF_ro o1 r1)).1 (k _ _ f1 h1 r1.nt (ownF_ro o1 r1)).2 (r1.mono ex) (t.mono ex k)
/-- the same where only the places in as are looked at -/
theorem Flds.mono' (ex : Same F F') : ∀ {vs : List V} {ds : List D} {as : List Addr}, Flds K F H vs ds as → (∀ q ∈ as, F' q = none ∧ H' q = H q) → Flds K F' H' vs ds as
  | _, _, _, .nil, _ => .nil
  | _, _, _, .val o1 r t, k => .val o1 (r.mono ex) (t.mono' ex k)
  | _, _, _, .own o1 f1 h1 r1 t, k => .own o1 (k _ List.mem_cons_self).1 ((k _ List.mem_cons_self).2.trans h1) (r1.mono ex) (t.mono' ex fun q h => k q (List.mem_cons_of_mem _ h))
/-- all frozen -/
theorem Flds.rp (ex : Same F F') : ∀ {vs : List V} {ds : List D} {as : List Addr}, Flds K F H vs ds as → (∀ q ∈ as, F' q = H q) → RpAll K F' vs ds
  | _, _, _, .nil, _ => .nil
  | _, _, _, .val o1 r t, k => .cons (r.mono ex) (t.rp ex k)
  | _, _, _, .own (q := q) (d := d) o1 f1 h1 r1 t, k => by
    refine .cons ?_ (t.rp ex fun q h => k q (List.mem_cons_of_mem _ h))
    have e : F' q = some _ := (k q List.mem_cons_self).trans h1
    cases r1 with
    | @dicT z ob kvs es m1 m2 =>
      exact .dicT (z := z) (o := ob) e m1 (m2.mono ex)
    | _ => cases o1
end
/-- p and its dicts known -/
def Fs (F H : Hp) (S : List Addr) : Hp := fun b => if b ∈ S then H b else F b
structure OG (K : PySem.W.Frag) (ρ0 : Rho) (σ0 : L2.St) (F0 H0 : Hp) (i : Nat) (p : Addr) (as : List Addr) (gd : D) (ρ : Rho) (σ : L2.St) (F H : Hp) : Prop where
  go : Go K ρ0 σ0 F0 H0 (ρ.set i (.adr p)) σ F H
  he : ρ[i]? = some .emp
  cm : Cmp K F H p as gd
  no : ∀ q ∈ p :: as, H0 q = none ∧ F q = none ∧ ¬ Own (ρ.set i (.adr p)) σ q
section
variable {K : PySem.W.Frag} {ρ0 ρ ρ1 : Rho} {σ0 σ σ1 : L2.St} {F0 H0 F H F1 H1 : Hp} {i : Nat} {p : Addr} {as : List Addr} {gd : D}
theorem OG.lt (t : OG K ρ0 σ0 F0 H0 i p as gd ρ σ F H) : i < ρ.length := (List.getElem?_eq_some_iff.mp t.he).1
theorem OG.slot (t : OG K ρ0 σ0 F0 H0 i p as gd ρ σ F H) : σ[i]? = some (some (.ref p)) := by
  have hl := t.go.rel.len
  rw [List.length_set] at hl
  have hl2 : i < σ.length := by have := t.lt; omega
  have hs := List.getElem?_eq_getElem hl2
  have z := t.go.rel.at' i (.adr p) _ (List.getElem?_set_self t.lt) hs
  rw [hs]
  generalize σ[i] = o at z ⊢
  cases z
  rfl
theorem OG.at_ (t : OG K ρ0 σ0 F0 H0 i p as gd ρ σ F H) : ∀ q ∈ p :: as, ∃ o, H q = some o ∧ NTup o ∧ ∀ xs, o ≠ .lst xs := fun q hq => by
  obtain ⟨C, dx, c, fs, es, _, _, h1, _, h2⟩ := t.cm.ex
  rcases List.mem_cons.mp hq with rfl | hq
  · exact ⟨_, h1, fun _ z => (nomatch z), fun _ z => (nomatch z)⟩
  · obtain ⟨_, kvs, h3⟩ := h2.has q hq
    exact ⟨_, h3, fun _ z => (nomatch z), fun _ z => (nomatch z)⟩
/-- an ordinary step with X in its place -/
theorem OG.step (t : OG K ρ0 σ0 F0 H0 i p as gd ρ σ F H) (r0 : Rel K F0 H0 ρ0 σ0) (he : ρ1[i]? = some .emp) (g : Go K (ρ.set i (.adr p)) σ F H (ρ1.set i (.adr p)) σ1 F1 H1) : OG K ρ0 σ0 F0 H0 i p as gd ρ1 σ1 F1 H1 := by
  have r := t.go.rel
  have kp : ∀ q ∈ p :: as, F1 q = none ∧ H1 q = H q ∧ ¬ Own (ρ1.set i (.adr p)) σ1 q := fun q hq => by
    obtain ⟨n1, n2, n3⟩ := t.no q hq
    obtain ⟨o, h1, h2, _⟩ := t.at_ q hq
    obtain ⟨k1, k2⟩ := g.keep q o h1 n2 n3
    exact ⟨k2 h2, k1.trans h1.symm, own_back2 r g h1 n3⟩
  refine ⟨t.go.trans r0 g, he, ?_, fun q hq => ⟨(t.no q hq).1, (kp q hq).1, (kp q hq).2.2⟩⟩
  obtain ⟨C, dx, c, fs, es, e1, e2, e3, e4, e5⟩ := t.cm.ex
  exact ⟨⟨C, dx, c, fs, es, e1, e2, (kp p List.mem_cons_self).2.1.trans e3, e4, e5.mono' g.ex fun q hq => ⟨(kp q (List.mem_cons_of_mem _ hq)).1, (kp q (List.mem_cons_of_mem _ hq)).2.1⟩⟩, (kp p List.mem_cons_self).1, t.cm.nd⟩
end
section
variable {K : PySem.W.Frag} {ρ0 ρ ρ1 : Rho} {σ0 σ σ1 : L2.St} {F0 H0 F H F1 H1 : Hp} {i : Nat} {p : Addr} {as : List Addr} {gd : D}
theorem OG.sameFs (t : OG K ρ0 σ0 F0 H0 i p as gd ρ σ F H) : Same F (Fs F H (p :: as)) := fun a o h => by
  unfold Fs
  rw [if_neg (fun z => by rw [(t.no a z).2.1] at h; cases h)]
  exact h
theorem OG.notRd (t : OG K ρ0 σ0 F0 H0 i p as gd ρ σ F H) (r0 : Rel K F0 H0 ρ0 σ0) {j : Nat} {d : D} {q : Addr} (h1 : (ρ.set i (.adr p))[j]? = some (.rd d)) (h2 : σ[j]? = some (some (.ref q))) (h3 : nofx d = true ∨ True) : Ra K F H (.ref q) d → F q = none → q ∉ p :: as := fun ra hf hq => by
  obtain ⟨k1, k2⟩ := t.go.rdb j d h1
  rw [h2] at k2
  have z := r0.at' j _ _ k1 k2.symm
  cases z with
  | rd z =>
    cases z with
    | val rp nf => exact rp_at (rp.mono t.go.ex) nf hf
    | own _ e _ => rw [(t.no q hq).1] at e; cases e
theorem OG.rpV (t : OG K ρ0 σ0 F0 H0 i p as gd ρ σ F H) : Rp K (Fs F H (p :: as)) (.ref p) gd := by
  obtain ⟨C, dx, c, fs, es, rfl, e2, e3, e4, e5⟩ := t.cm.ex
  have eq : ∀ q ∈ p :: as, Fs F H (p :: as) q = H q := fun q hq => by unfold Fs; rw [if_pos hq]
  exact .inst e2 ((eq p List.mem_cons_self).trans e3) e4 (e5.rp t.sameFs fun q hq => eq q (List.mem_cons_of_mem _ hq))
theorem OG.view (t : OG K ρ0 σ0 F0 H0 i p as gd ρ σ F H) (r0 : Rel K F0 H0 ρ0 σ0) : Rel K (Fs F H (p :: as)) H (ρ.set i (.val gd)) σ := by
  have r := t.go.rel
  have ex := t.sameFs
  have nfs : ∀ q, q ∉ p :: as → F q = none → Fs F H (p :: as) q = none := fun q hq h => by unfold Fs; rw [if_neg hq]; exact h
  have look : ∀ {m : Nat} {u : Slot}, (ρ.set i (.val gd))[m]? = some u → (m = i ∧ u = .val gd) ∨ (m ≠ i ∧ (ρ.set i (.adr p))[m]? = some u) := fun {m u} h => by
    rcases get_set h with ⟨e, z⟩ | ⟨e, h⟩
    · exact .inl ⟨e.symm, z⟩
    · exact .inr ⟨fun z => e z.symm, by rw [List.getElem?_set_ne e]; exact h⟩
  have ownB : ∀ q, Own (ρ.set i (.val gd)) σ q → Own (ρ.set i (.adr p)) σ q := fun q ⟨m, d, h1, h2⟩ => by
    rcases look h1 with ⟨_, e⟩ | ⟨_, h1⟩
    · cases e
    · exact ⟨m, d, h1, h2⟩
  refine ⟨fun a o h => ?_, by rw [List.length_set, ← r.len, List.length_set], fun m u o h1 h2 => ?_, fun m k d1 d2 q h1 h2 h3 h4 => ?_, fun m d q h1 h2 h3 => ?_⟩
  · unfold Fs at h
    split at h
    · exact h
    · exact r.ex a o h
  · rcases look h1 with ⟨rfl, rfl⟩ | ⟨_, h1⟩
    · rw [t.slot] at h2; cases h2; exact .val t.rpV
    · have z := r.at' m u o h1 h2
      cases z with
      | emp => exact .emp
      | adr => exact .adr
      | val rp => exact .val (rp.mono ex)
      | @own b o d z1 z2 z3 => exact .own (nfs b (fun hq => (t.no b hq).2.2 ⟨m, d, h1, h2⟩) z1) z2 (z3.mono ex)
      | @rd v d ra =>
        cases ra with
        | val rp nf => exact .rd (.val (rp.mono ex) nf)
        | @own b o d z1 z2 z3 => exact .rd (.own (nfs b (t.notRd r0 h1 h2 (.inr trivial) (.own z1 z2 z3) z1) z1) z2 (z3.mono ex))
  · rcases look h1 with ⟨_, e⟩ | ⟨_, h1⟩
    · cases e
    · rcases look h2 with ⟨_, e⟩ | ⟨_, h2⟩
      · cases e
      · exact r.dis m k d1 d2 q h1 h2 h3 h4
  · rcases look h1 with ⟨_, e⟩ | ⟨_, h1⟩
    · cases e
    · exact r.rdis m d q h1 h2 (ownB q h3)
end
mutual
/-- numbers, truths, texts, None, tuples and lists of these -/
def cln : D → Bool
  | .non => true
  | .bl _ => true
  | .int _ => true
  | .str _ => true
  | .ty _ => true
  | .tup ds => clns ds
  | .lst ds => clns ds
  | _ => false
def clns : List D → Bool
  | [] => true
  | d :: ds => cln d && clns ds
end
/-- the tuples and lists of F alone -/
def tlF (F : Hp) : Hp := fun a => match F a with
  | some (.tup xs) => some (.tup xs)
  | some (.lst xs) => some (.lst xs)
  | _ => none
theorem tlF_tup {F : Hp} {a : Addr} {xs : List V} (h : F a = some (.tup xs)) : tlF F a = some (.tup xs) := by unfold tlF; rw [h]
theorem tlF_lst {F : Hp} {a : Addr} {xs : List V} (h : F a = some (.lst xs)) : tlF F a = some (.lst xs) := by unfold tlF; rw [h]
theorem tlF_same (F : Hp) : Same (tlF F) F := fun a o h => by
  unfold tlF at h
  split at h
  · rename_i e; cases h; exact e
  · rename_i e; cases h; exact e
  · cases h
theorem tlF_none {F : Hp} {a : Addr} (h : F a = none) : tlF F a = none := by unfold tlF; rw [h]
theorem tlF_not {F : Hp} {a : Addr} {o : HO} (h : F a = some o) (n1 : NTup o) (n2 : ∀ xs, o ≠ .lst xs) : tlF F a = none := by
  unfold tlF
  rw [h]
  split
  · rename_i e; cases e; exact absurd rfl (n1 _)
  · rename_i e; cases e; exact absurd rfl (n2 _)
  · rfl
theorem rp_tlF {K : PySem.W.Frag} {F : Hp} {v : V} {d : D} (h : Rp K F v d) : cln d = true → Rp K (tlF F) v d := by
  refine Rp.rec (motive_1 := fun v d _ => cln d = true → Rp K (tlF F) v d) (motive_2 := fun vs ds _ => clns ds = true → RpAll K (tlF F) vs ds) ?_ ?_ ?_ ?_ ?_ ?_ ?_ ?_ ?_ ?_ ?_ ?_ ?_ ?_ ?_ ?_ ?_ ?_ h
  · exact fun _ => .non
  · exact fun b _ => .bl b
  · exact fun i _ => .int i
  · exact fun x _ => .str x
  · exact fun n _ => .ty n
  · exact fun h _ r z => .tup (tlF_tup h) (r (by unfold cln at z; exact z))
  · exact fun h _ r z => .lst (tlF_lst h) (r (by unfold cln at z; exact z))
  · exact fun _ _ _ z => by unfold cln at z; cases z
  · exact fun _ _ _ _ z => by unfold cln at z; cases z
  · exact fun _ _ _ _ z => by unfold cln at z; cases z
  · exact fun _ _ _ _ _ _ z => by unfold cln at z; cases z
  · exact fun _ _ z => by unfold cln at z; cases z
  · exact fun _ _ _ _ _ z => by unfold cln at z; cases z
  · exact fun _ z => by unfold cln at z; cases z
  · exact fun z => by unfold cln at z; cases z
  · exact fun _ _ z => by unfold cln at z; cases z
  · exact fun _ => .nil
  · exact fun _ _ r1 r2 z => by
      unfold clns at z
      rw [Bool.and_eq_true] at z
      exact .cons (r1 z.1) (r2 z.2)
theorem rpAll_tlF {K : PySem.W.Frag} {F : Hp} : ∀ {vs : List V} {ds : List D}, RpAll K F vs ds → clns ds = true → RpAll K (tlF F) vs ds
  | _, _, .nil, _ => .nil
  | _, _, .cons a b, z => by
    unfold clns at z
    rw [Bool.and_eq_true] at z
    exact .cons (rp_tlF a z.1) (rpAll_tlF b z.2)
/-- what a slot may hold then -/
def clnS : Slot → Bool
  | .val d => cln d
  | .own (.lst ds) => clns ds
  | .own (.dicT _ es) => clns (es.map (·.2))
  | .own _ => false
  | _ => true
def clnR (ρ : Rho) : Bool := ρ.all clnS
theorem ro_tlF {K : PySem.W.Frag} {F : Hp} {q : Addr} {o : HO} {d : D} (r : Ro K F q o d) (h : clnS (.own d) = true) : Ro K (tlF F) q o d := by
  cases r with
  | lst r => exact .lst (rpAll_tlF r h)
  | dicT k r => exact .dicT k (rpAll_tlF r h)
  | _ => cases h
/-- F, and the tuples and lists that came to be known -/
def mrgT (F F1 : Hp) : Hp := fun a => match F a with
  | some o => some o
  | none => tlF F1 a
theorem mrgT_same (F F1 : Hp) : Same F (mrgT F F1) := fun a o h => by unfold mrgT; rw [h]
theorem mrgT_tl {F F1 : Hp} (ex : Same F F1) : Same (tlF F1) (mrgT F F1) := fun a o h => by
  unfold mrgT
  split
  · rename_i o' e
    have := ex _ _ e
    rw [tlF_same F1 a o h] at this
    exact this.symm
  · exact h
theorem mrgT_none {F F1 : Hp} {a : Addr} (h : F a = none) (h1 : F1 a = none) : mrgT F F1 a = none := by
  unfold mrgT
  rw [h]
  exact tlF_none h1
section
variable {K : PySem.W.Frag} {ρ0 ρ ρ1 : Rho} {σ0 σ σ1 : L2.St} {F0 H0 F H F1 H1 : Hp} {i : Nat} {p : Addr} {as : List Addr} {gd : D}
/-- behind an expression that saw X's instance as a value -/
theorem OG.back (t : OG K ρ0 σ0 F0 H0 i p as gd ρ σ F H) (r0 : Rel K F0 H0 ρ0 σ0) (g : Go K (ρ.set i (.val gd)) σ (Fs F H (p :: as)) H ρ1 σ F1 H1) (hc : clnR (ρ1.set i .emp) = true) : OG K ρ0 σ0 F0 H0 i p as gd (ρ1.set i .emp) σ (mrgT F F1) H1 := by
  have r := t.go.rel
  have r1 := g.rel
  have exF : Same F F1 := t.sameFs.trans g.ex
  have hl1 : i < ρ1.length := by rw [r1.len, ← r.len, List.length_set]; exact t.lt
  have eS : (ρ1.set i .emp).set i (.adr p) = ρ1.set i (.adr p) := by rw [List.set_set]
  have fsN : ∀ q, q ∉ p :: as → Fs F H (p :: as) q = F q := fun q hq => by unfold Fs; rw [if_neg hq]
  have fsP : ∀ q ∈ p :: as, Fs F H (p :: as) q = H q := fun q hq => by unfold Fs; rw [if_pos hq]
  have kp : ∀ q ∈ p :: as, H1 q = H q ∧ mrgT F F1 q = none := fun q hq => by
    obtain ⟨o, h1, h2, h3⟩ := t.at_ q hq
    have e1 : F1 q = some o := g.ex _ _ ((fsP q hq).trans h1)
    refine ⟨(r1.ex _ _ e1).trans h1.symm, ?_⟩
    unfold mrgT
    rw [(t.no q hq).2.1]
    exact tlF_not e1 h2 h3
  have look : ∀ {m : Nat} {u : Slot}, (ρ1.set i (.adr p))[m]? = some u → (m = i ∧ u = .adr p) ∨ (m ≠ i ∧ ρ1[m]? = some u ∧ clnS u = true) := fun {m u} h => by
    rcases get_set h with ⟨e, z⟩ | ⟨e, h⟩
    · exact .inl ⟨e.symm, z⟩
    · refine .inr ⟨fun z => e z.symm, h, ?_⟩
      have h2 : (ρ1.set i .emp)[m]? = some u := by rw [List.getElem?_set_ne e]; exact h
      exact List.all_eq_true.mp hc u (List.mem_of_getElem? h2)
  have ownB : ∀ q, Own (ρ1.set i (.adr p)) σ q → Own ρ1 σ q := fun q ⟨m, d, h1, h2⟩ => by
    rcases look h1 with ⟨_, e⟩ | ⟨_, h1, _⟩
    · cases e
    · exact ⟨m, d, h1, h2⟩
  have ownC : ∀ q, Own (ρ.set i (.val gd)) σ q → Own (ρ.set i (.adr p)) σ q := fun q ⟨m, d, h1, h2⟩ => by
    rcases get_set h1 with ⟨_, e⟩ | ⟨e, h1⟩
    · cases e
    · exact ⟨m, d, by rw [List.getElem?_set_ne e]; exact h1, h2⟩
  have st : Go K (ρ.set i (.adr p)) σ F H (ρ1.set i (.adr p)) σ (mrgT F F1) H1 := by
    refine ⟨⟨fun a o h => ?_, by rw [List.length_set]; exact r1.len, fun m u o h1 h2 => ?_, fun m k d1 d2 q h1 h2 h3 h4 => ?_, fun m d q h1 h2 h3 => ?_⟩, mrgT_same F F1, fun a o h1 h2 h3 => ?_, fun q h => ?_, rfl, fun d h => ?_, fun m d h => ?_⟩
    · unfold mrgT at h
      split at h
      · rename_i e; cases h; exact r1.ex _ _ (exF _ _ e)
      · exact r1.ex _ _ (tlF_same F1 a o h)
    · rcases look h1 with ⟨rfl, rfl⟩ | ⟨hm, h1, hu⟩
      · rw [t.slot] at h2; cases h2; exact .adr
      · have z := r1.at' m u o h1 h2
        cases z with
        | emp => exact .emp
        | adr => exact .adr
        | val rp => exact .val ((rp_tlF rp hu).mono (mrgT_tl exF))
        | @own b o d z1 z2 z3 =>
          refine .own (mrgT_none ?_ z1) z2 ((ro_tlF z3 hu).mono (mrgT_tl exF))
          cases e : F b with
          | none => rfl
          | some o' => rw [exF _ _ e] at z1; cases z1
        | @rd v d ra =>
          obtain ⟨k1, k2⟩ := g.rdb m d h1
          have k3 : (ρ.set i (.adr p))[m]? = some (.rd d) := by
            rcases get_set k1 with ⟨_, e⟩ | ⟨e, k1⟩
            · cases e
            · rw [List.getElem?_set_ne e]; exact k1
          have w := r.at' m _ _ k3 h2
          cases w with
          | rd w =>
            cases w with
            | val rp nf => exact .rd (.val (rp.mono (mrgT_same F F1)) nf)
            | @own b o d z1 z2 z3 =>
              have nb := t.notRd r0 k3 h2 (.inr trivial) (.own z1 z2 z3) z1
              have nOw : ¬ Own (ρ.set i (.val gd)) σ b := fun w => r.rdis m d b k3 h2 (ownC b w)
              obtain ⟨y1, y2⟩ := g.keep b o z2 ((fsN b nb).trans z1) nOw
              exact .rd (.own (mrgT_none z1 (y2 z3.nt)) y1 (z3.mono (mrgT_same F F1)))
    · rcases look h1 with ⟨_, e⟩ | ⟨_, h1, _⟩
      · cases e
      · rcases look h2 with ⟨_, e⟩ | ⟨_, h2, _⟩
        · cases e
        · exact r1.dis m k d1 d2 q h1 h2 h3 h4
    · rcases look h1 with ⟨_, e⟩ | ⟨_, h1, _⟩
      · cases e
      · exact r1.rdis m d q h1 h2 (ownB q h3)
    · by_cases ha : a ∈ p :: as
      · exact ⟨(kp a ha).1.trans h1, fun _ => (kp a ha).2⟩
      · obtain ⟨y1, y2⟩ := g.keep a o h1 ((fsN a ha).trans h2) fun w => h3 (ownC a w)
        exact ⟨y1, fun n => mrgT_none h2 (y2 n)⟩
    · rcases g.own q (ownB q h) with w | w
      · exact .inl (ownC q w)
      · exact .inr w
    · by_cases h0 : i = 0
      · subst h0
        have : 0 < ρ.length := t.lt
        rw [List.getElem?_set_self this] at h
        cases h
      · rw [List.getElem?_set_ne h0] at h ⊢
        exact g.lowO d (by rw [List.getElem?_set_ne h0]; exact h)
    · rcases look h with ⟨_, e⟩ | ⟨hm, h, _⟩
      · cases e
      · obtain ⟨k1, k2⟩ := g.rdb m d h
        refine ⟨?_, k2⟩
        rcases get_set k1 with ⟨_, e⟩ | ⟨e, k1⟩
        · cases e
        · rw [List.getElem?_set_ne e]; exact k1
  have he : (ρ1.set i .emp)[i]? = some .emp := List.getElem?_set_self hl1
  exact t.step r0 he (by rw [eS]; exact st)
end
end G


set_option maxHeartbeats 4000000
namespace G
open PySem PySem.Spec PyProof.Rows L2

def NoOwn (ρ : Rho) : Prop := ∀ s ∈ ρ, ∀ d, s ≠ Slot.own d
section
variable {K : PySem.W.Frag} {ρ0 ρ ρ1 : Rho} {σ0 σ σ1 : L2.St} {F0 H0 F H F1 H1 F' H' : Hp} {i : Nat} {p : Addr} {as as' : List Addr} {gd gd' : D}
theorem NoOwn.own (h : NoOwn ρ) (q : Addr) : ¬ Own ρ σ q := fun ⟨m, d, h1, _⟩ => h _ (List.mem_of_getElem? h1) d rfl
end
inductive RF where
  | nx (gd : D) (ρ : Rho) | ret (d gd : D) (ρ : Rho) | bad
abbrev RS := D → Rho → RF
def RF.seq (r : RF) (t : RS) : RF := match r with
  | .nx gd ρ => t gd ρ
  | .ret d gd ρ => .ret d gd ρ
  | .bad => .bad
def OutR (K : PySem.W.Frag) (ρ0 : Rho) (σ0 : L2.St) (F0 H0 : Hp) (i : Nat) (p : Addr) (F : Hp) (C : Ends) : RF → Prop
  | .nx gd ρ => ∀ σ' F' H' as, Same F F' → OG K ρ0 σ0 F0 H0 i p as gd ρ σ' F' H' → C.nx σ' H'
  | .ret d gd ρ => ∀ σ' F' H' as v, Same F F' → OG K ρ0 σ0 F0 H0 i p as gd ρ σ' F' H' → Rp K F' v d → C.rt v H'
  | .bad => False
theorem OutR.mono {K : PySem.W.Frag} {ρ0 : Rho} {σ0 : L2.St} {F0 H0 : Hp} {i : Nat} {p : Addr} {F F1 : Hp} {C : Ends} {r : RF} (s : Same F F1) (h : OutR K ρ0 σ0 F0 H0 i p F C r) : OutR K ρ0 σ0 F0 H0 i p F1 C r := by
  cases r with
  | nx gd ρ => exact fun σ' F' H' as z => h σ' F' H' as (s.trans z)
  | ret d gd ρ => exact fun σ' F' H' as v z => h σ' F' H' as v (s.trans z)
  | bad => exact h
structure RT (X : Cx) (i : Nat) (T : TS) (t : RS) : Prop where
  go : ∀ {ρ0 : Rho} {σ0 : L2.St} {F0 H0 : Hp} {p : Addr} {as : List Addr} {gd : D} {ρ : Rho} {σ : L2.St} {F H : Hp}, Rel X.K F0 H0 ρ0 σ0 → NoOwn ρ0 → OG X.K ρ0 σ0 F0 H0 i p as gd ρ σ F H → ∀ C : Ends, OutR X.K ρ0 σ0 F0 H0 i p F C (t gd ρ) → T C σ H
/-- what an expression tells that sees the instance as a value -/
def rv {α : Type} (i : Nat) (r : Res α) (k : α → Rho → RF) : RF := match r with
  | .ok a ρ1 => if clnR (ρ1.set i .emp) = true then k a (ρ1.set i .emp) else .bad
  | _ => .bad
section
variable {X : Cx} {E : EW} {i : Nat} {T1 T2 : TS} {t1 t2 : RS} {K : PySem.W.Frag} {ρ0 ρ : Rho} {σ0 σ : L2.St} {F0 H0 F H : Hp} {p : Addr} {as : List Addr} {gd : D}
end
section
variable {X : Cx} {E : EW} {i : Nat} {Tb : TS} {tb : RS}
end
end G


set_option maxHeartbeats 4000000
namespace G
open PySem PySem.Spec PyProof.Rows L2

section
variable {K : PySem.W.Frag} {F F' H H' : Hp}
theorem Flds.cons {v : V} {d : D} {an : List Addr} (n : Flds K F H [v] [d] an) {vs : List V} {ds : List D} {as : List Addr} (t : Flds K F H vs ds as) : Flds K F H (v :: vs) (d :: ds) (an ++ as) := by
  cases n with
  | val o1 r t0 => cases t0; exact .val o1 r t
  | own o1 f1 h1 r1 t0 => cases t0; exact .own o1 f1 h1 r1 t
/-- a field is set -/
theorem Flds.put {f : Str} {v : V} {d : D} {an : List Addr} (n : Flds K F H [v] [d] an) : ∀ {fs : List (Str × V)} {es : List (Str × D)} {as : List Addr}, fs.map (·.1) = es.map (·.1) → Flds K F H (fs.map (·.2)) (es.map (·.2)) as →
    ∃ as', (putF f v fs).map (·.1) = (putD f d es).map (·.1) ∧ Flds K F H ((putF f v fs).map (·.2)) ((putD f d es).map (·.2)) as' ∧ (∀ q ∈ as', q ∈ as ∨ q ∈ an) ∧ ((an ++ as).Nodup → as'.Nodup)
  | [], [], _, _, .nil => ⟨an, rfl, n, fun q h => .inr h, fun h => by rw [List.append_nil] at h; exact h⟩
  | [], _ :: _, _, k, _ => by cases k
  | _ :: _, [], _, k, _ => by cases k
  | (g, x) :: fs, (g', y) :: es, as, k, t => by
    rw [List.map_cons, List.map_cons] at k
    injection k with k1 k2
    have k1 : g = g' := k1
    subst k1
    have t : Flds K F H (x :: fs.map (·.2)) (y :: es.map (·.2)) as := t
    unfold putF putD
    by_cases hg : g = f
    · rw [if_pos hg, if_pos hg]
      cases t with
      | val o1 r t => exact ⟨an ++ as, by rw [List.map_cons, List.map_cons, k2], n.cons t, fun q h => (List.mem_append.mp h).elim .inr .inl, fun h => h⟩
      | own o1 f1 h1 r1 tl => exact ⟨_, by rw [List.map_cons, List.map_cons, k2], n.cons tl, fun q h => (List.mem_append.mp h).elim .inr fun h => .inl (List.mem_cons_of_mem _ h), fun h => by
          rw [List.nodup_append] at h ⊢
          exact ⟨h.1, (List.nodup_cons.mp h.2.1).2, fun a ha b hb => h.2.2 a ha b (List.mem_cons_of_mem _ hb)⟩⟩
    · rw [if_neg hg, if_neg hg]
      cases t with
      | val o1 r t =>
        obtain ⟨as', e1, e2, e3, e4⟩ := Flds.put (f := f) n k2 t
        exact ⟨as', by rw [List.map_cons, List.map_cons, e1], .val o1 r e2, e3, e4⟩
      | @own q _ _ _ _ _ o1 f1 h1 r1 tl =>
        obtain ⟨as', e1, e2, e3, e4⟩ := Flds.put (f := f) n k2 tl
        refine ⟨_ :: as', by rw [List.map_cons, List.map_cons, e1], .own o1 f1 h1 r1 e2, fun b hb => ?_, fun h => ?_⟩
        · rcases List.mem_cons.mp hb with rfl | hb
          · exact .inl List.mem_cons_self
          · exact (e3 b hb).elim (fun z => .inl (List.mem_cons_of_mem _ z)) .inr
        · rw [List.nodup_append] at h
          obtain ⟨n1, n2, n3⟩ := h
          refine List.nodup_cons.mpr ⟨fun hq => ?_, e4 (List.nodup_append.mpr ⟨n1, (List.nodup_cons.mp n2).2, fun a ha b hb => n3 a ha b (List.mem_cons_of_mem _ hb)⟩)⟩
          rcases e3 q hq with z | z
          · exact (List.nodup_cons.mp n2).1 z
          · exact n3 q z q List.mem_cons_self rfl
/-- the dict of a field -/
theorem Flds.look {f : Str} {d : D} (ho : ownF d = true) : ∀ {fs : List (Str × V)} {es : List (Str × D)} {as : List Addr}, fs.map (·.1) = es.map (·.1) → Flds K F H (fs.map (·.2)) (es.map (·.2)) as → es.lookup f = some d →
    ∃ q o, fs.lookup f = some (.ref q) ∧ q ∈ as ∧ F q = none ∧ H q = some o ∧ Ro K F q o d
  | [], [], _, _, .nil, e => by cases e
  | [], _ :: _, _, k, _, _ => by cases k
  | _ :: _, [], _, k, _, _ => by cases k
  | (g, x) :: fs, (g', y) :: es, as, k, t, e => by
    rw [List.map_cons, List.map_cons] at k
    injection k with k1 k2
    have k1 : g = g' := k1
    subst k1
    have t : Flds K F H (x :: fs.map (·.2)) (y :: es.map (·.2)) as := t
    simp only [List.lookup_cons] at e ⊢
    by_cases hg : (f == g) = true
    · rw [hg] at e ⊢
      simp only at e ⊢
      cases e
      cases t with
      | val o1 _ _ => rw [ho] at o1; cases o1
      | own o1 f1 h1 r1 t => exact ⟨_, _, rfl, List.mem_cons_self, f1, h1, r1⟩
    · have hg := Bool.eq_false_iff.mpr hg
      rw [hg] at e ⊢
      simp only at e ⊢
      cases t with
      | val o1 _ t => exact Flds.look ho k2 t e
      | own o1 f1 h1 r1 tl =>
        obtain ⟨q, o, e1, e2, e3⟩ := Flds.look ho k2 tl e
        exact ⟨q, o, e1, List.mem_cons_of_mem _ e2, e3⟩
/-- .. which changes -/
theorem Flds.mut {f : Str} {d d' : D} {o' : HO} {q : Addr} (ho : ownF d = true) (ho' : ownF d' = true) (ro : Ro K F q o' d') : ∀ {fs : List (Str × V)} {es : List (Str × D)} {as : List Addr}, fs.map (·.1) = es.map (·.1) → Flds K F H (fs.map (·.2)) (es.map (·.2)) as → as.Nodup → fs.lookup f = some (.ref q) → es.lookup f = some d →
    fs.map (·.1) = (putD f d' es).map (·.1) ∧ Flds K F (upd H q o') (fs.map (·.2)) ((putD f d' es).map (·.2)) as
  | [], [], _, _, .nil, _, _, e => by cases e
  | [], _ :: _, _, k, _, _, _, _ => by cases k
  | _ :: _, [], _, k, _, _, _, _ => by cases k
  | (g, x) :: fs, (g', y) :: es, as, k, t, nd, e1, e => by
    rw [List.map_cons, List.map_cons] at k
    injection k with k1 k2
    have k1 : g = g' := k1
    subst k1
    have t : Flds K F H (x :: fs.map (·.2)) (y :: es.map (·.2)) as := t
    simp only [List.lookup_cons] at e e1
    unfold putD
    by_cases hg : g = f
    · have hb : (f == g) = true := beq_iff_eq.mpr hg.symm
      rw [hb] at e e1
      simp only at e e1
      cases e
      cases e1
      rw [if_pos hg]
      refine ⟨by rw [List.map_cons, List.map_cons, k2], ?_⟩
      cases t with
      | val o1 _ _ => rw [ho] at o1; cases o1
      | own o1 f1 h1 r1 tl =>
        refine .own ho' f1 upd_same ro (tl.mono' (Same.refl F) fun b hb => ⟨(tl.has b hb).1, upd_ne (fun z => (List.nodup_cons.mp nd).1 (by rw [← z]; exact hb))⟩)
    · have hb : (f == g) = false := by rw [beq_eq_false_iff_ne]; exact fun z => hg z.symm
      rw [hb] at e e1
      simp only at e e1
      rw [if_neg hg]
      cases t with
      | val o1 r t =>
        obtain ⟨m1, m2⟩ := Flds.mut ho ho' ro k2 t nd e1 e
        exact ⟨by rw [List.map_cons, List.map_cons, m1], .val o1 r m2⟩
      | own o1 f1 h1 r1 tl =>
        obtain ⟨m1, m2⟩ := Flds.mut ho ho' ro k2 tl (List.nodup_cons.mp nd).2 e1 e
        obtain ⟨q2, o2, z1, z2, _⟩ := Flds.look ho k2 tl e
        rw [e1] at z1
        cases z1
        exact ⟨by rw [List.map_cons, List.map_cons, m1], .own o1 f1 (by rw [upd_ne (fun z => (List.nodup_cons.mp nd).1 (by rw [z]; exact z2))]; exact h1) r1 m2⟩
end
section
variable {X : Cx} {E : EW} {i : Nat} {c : String} {C : Addr} {f : Str}
end
end G


set_option maxHeartbeats 4000000
namespace G
open PySem PySem.Spec PyProof.Rows L2

abbrev MF := D → List D → Option (D × D)
section
variable {P : Program} {w : World} {K : PySem.W.Frag} {mg : Str → Option Value} {base : Heap}
end
section
variable {X : Cx} {i : Nat} {c : String} {C : Addr} {m : Str} {g : MF} {E : EW} {cv : String → Value} {W : WX} {E' : L2.St → XK}
end

section
variable {X : Cx} {i : Nat} {c : String} {C : Addr} {g : MF} {cv : String → Value} {W : WX}
end
end G


set_option maxHeartbeats 4000000
namespace G
open PySem PySem.Spec PyProof.Rows L2

section
variable {K : PySem.W.Frag} {F F' H HL : Hp}
end
section
variable {K : PySem.W.Frag} {ρ0 ρ ρ1 : Rho} {σ0 σ σ1 : L2.St} {F0 H0 F H F1 H1 : Hp} {i : Nat} {p : Addr} {as : List Addr} {gd : D}
theorem OG.dT (t : OG K ρ0 σ0 F0 H0 i p as gd ρ σ F H) : ∀ q ∈ as, ∃ kvs, H q = some (.dT kvs) := fun q hq => by
  obtain ⟨_, _, _, _, _, _, _, _, _, fl⟩ := t.cm.ex
  exact (fl.has q hq).2
end
section
variable {X : Cx} {E : EW} {i : Nat} {T1 T2 : TS} {t1 t2 : RS}
end
end G


set_option maxHeartbeats 4000000
namespace G
open PySem PySem.Spec PyProof.Rows L2

section
variable {K : PySem.W.Frag}
end
section
variable {X : Cx} {E : EW} {pos : Pos}
end
section
variable (ρ : Rho) (i : Nat) (te : XV)
end
end G


set_option maxHeartbeats 4000000
namespace G
open PySem PySem.Spec PyProof.Rows L2

abbrev GT3 := List (Int × Addr × List D)
section
variable {K : PySem.W.Frag} {ρ0 ρ ρ1 : Rho} {σ0 σ σ1 : L2.St} {F0 H0 F H F1 H1 : Hp} {i : Nat} {p : Addr} {T : GT3}
end
end G


set_option maxHeartbeats 4000000
namespace G
open PySem PySem.Spec PyProof.Rows L2
end G


set_option maxHeartbeats 4000000
namespace G
open PySem PySem.Spec PyProof.Rows L2

section
variable {X : Cx} {E : EW} {i : Nat}
end
end G


set_option maxHeartbeats 4000000
namespace G
open PySem PySem.Spec PyProof.Rows L2

section
variable {X : Cx} {E : EW} {i j : Nat}
end
theorem RT.imp {X : Cx} {i : Nat} {T T' : TS} {t : RS} (h : RT X i T t) (k : ∀ C σ H, T C σ H → T' C σ H) : RT X i T' t := ⟨fun r0 n0 t C o => k C _ _ (h.go r0 n0 t C o)⟩
section
variable {X : Cx} {E : EW} {i : Nat} {T1 T2 : TS} {t1 t2 : RS}
end
section
variable {X : Cx} {cv : String → Value} {W : WX} {pos : Pos}
end
end G


set_option maxHeartbeats 4000000
namespace G
open PySem PySem.Spec PyProof.Rows L2

section
variable {gd d : D} {ρ ρ1 : Rho} {i j : Nat} {t1 t2 : RS}
end
end G


set_option maxHeartbeats 4000000
namespace G
open PySem PySem.Spec PyProof.Rows L2

section
variable {K : PySem.W.Frag} {F H F1 H1 F2 H2 : Hp} {ρ ρ1 : Rho} {σ σ1 : L2.St}
/-- an own object is let go of; what becomes of it is not told -/
theorem Go.drop {h : Nat} {y : D} {b : Addr} (h0 : h ≠ 0) (r : Rel K F H ρ σ) (e1 : ρ[h]? = some (.own y)) (e2 : σ[h]? = some (some (.ref b))) (k : ∀ a w, H a = some w → a ≠ b → H2 a = some w) : Go K ρ σ F H (ρ.set h .emp) σ F H2 := by
  have fb : F b = none := by
    obtain ⟨p, o, q1, q2, _, _⟩ := r.own e1
    rw [e2] at q1
    cases q1
    exact q2
  have back : ∀ {m : Nat} {s : Slot}, (ρ.set h .emp)[m]? = some s → (m = h ∧ s = .emp) ∨ (m ≠ h ∧ ρ[m]? = some s) := fun {m s} q => by
    rcases get_set q with ⟨e, z⟩ | ⟨e, z⟩
    · exact .inl ⟨e.symm, z⟩
    · exact .inr ⟨fun w => e w.symm, z⟩
  have own : ∀ p, Own (ρ.set h .emp) σ p → Own ρ σ p := fun p ⟨m, d, q1, q2⟩ => by
    rcases back q1 with ⟨_, z⟩ | ⟨_, z⟩
    · cases z
    · exact ⟨m, d, z, q2⟩
  refine ⟨⟨fun a w z => k a w (r.ex a w z) (fun e => (by rw [e, fb] at z; cases z)), (by rw [List.length_set]; exact r.len), fun m s o q1 q2 => ?_, fun m n d e p q1 q2 q3 q4 => ?_, fun m d p q1 q2 q3 => ?_⟩, Same.refl F, fun a o z1 z2 z3 => ⟨k a o z1 fun e => z3 ⟨h, y, e1, by rw [e]; exact e2⟩, fun _ => z2⟩, fun p z => .inl (own p z), rfl, fun d z => ⟨d, by rw [List.getElem?_set_ne h0]; exact z⟩, fun m d z => ?_⟩
  · rcases back q1 with ⟨_, rfl⟩ | ⟨hm, z⟩
    · exact .emp
    · have sr := r.at' m s o z q2
      cases sr with
      | emp => exact .emp
      | adr => exact .adr
      | val rp => exact .val rp
      | @own p w d z1 z2 z3 => exact .own z1 (k _ _ z2 fun e => hm (by subst e; exact r.dis _ _ _ _ _ z e1 q2 e2)) z3
      | rd ra =>
        cases ra with
        | val rp n => exact .rd (.val rp n)
        | @own p w d z1 z2 z3 => exact .rd (.own z1 (k _ _ z2 fun e => by subst e; exact r.rdis _ _ _ z q2 ⟨h, y, e1, e2⟩) z3)
  · rcases back q1 with ⟨_, z⟩ | ⟨_, z1⟩
    · cases z
    · rcases back q2 with ⟨_, z⟩ | ⟨_, z2⟩
      · cases z
      · exact r.dis _ _ _ _ _ z1 z2 q3 q4
  · rcases back q1 with ⟨_, z⟩ | ⟨_, z⟩
    · cases z
    · exact r.rdis _ _ _ z q2 (own p q3)
  · rcases back z with ⟨_, z⟩ | ⟨_, z⟩
    · cases z
    · exact ⟨z, rfl⟩
end
section
variable {K : PySem.W.Frag} {E : EW} {fr : Bool} {i h : Nat} {ρ1 : Rho} {σ : L2.St} {F1 H1 F' H' H2 : Hp} {v : V} {d y : D} {b : Addr}
end
section
variable {X : Cx} {cv : String → Value} {pos : Pos} {W : WX} {fr : Bool}
end
section
variable {K : PySem.W.Frag} {E : EW}
end
end G


set_option maxHeartbeats 4000000
namespace G
open PySem PySem.Spec PyProof.Rows L2

end G


set_option maxHeartbeats 4000000
namespace G
open PySem PySem.Spec PyProof.Rows L2
end G


set_option maxHeartbeats 4000000
namespace G
open PySem PySem.Spec PyProof.Rows L2
section
variable {X : Cx} {E : EW} {pos : Pos}
end
section
variable {X : Cx} {E : EW} {pos : Pos}
end
section
variable (ρ : Rho) (i : Nat) (ds : List D) (d : D) (z : Str)
end
end G


set_option maxHeartbeats 4000000
namespace G
open PySem PySem.Spec PyProof.Rows L2
def own0 (ρ : Rho) : Bool := match ρ with
  | .own _ :: r => noOwnA r
  | _ => false
theorem own0_at {ρ : Rho} (h : own0 ρ = true) : ∃ d, ρ[0]? = some (.own d) := by
  unfold own0 at h
  split at h
  · exact ⟨_, rfl⟩
  · cases h
theorem own0_of {ρ : Rho} {σ : L2.St} {a : Addr} (h : own0 ρ = true) (w : Own ρ σ a) : σ[0]? = some (some (.ref a)) := by
  obtain ⟨j, d, h1, h2⟩ := w
  unfold own0 at h
  split at h
  · cases j with
    | zero => exact h2
    | succ j =>
      rw [List.getElem?_cons_succ] at h1
      have := List.all_eq_true.mp h _ (List.mem_of_getElem? h1)
      simp at this
  · cases h
section
variable {K : PySem.W.Frag} {ρ0 ρ ρ1 : Rho} {σ0 σ σ1 : L2.St} {F0 H0 F H F1 H1 : Hp} {i : Nat} {p : Addr} {tp : Bool} {as : List Addr} {cs : List D}
theorem TG.new0 (t : TG K ρ0 σ0 F0 H0 i p tp as cs ρ σ F H) (r0 : Rel K F0 H0 ρ0 σ0) (o0 : own0 ρ0 = true) {b : Addr} (hb : H b = none) : H0 b = none := by
  cases e : H0 b with
  | none => rfl
  | some u =>
    exfalso
    by_cases hw : Own ρ0 σ0 b
    · obtain ⟨d, hd⟩ := own0_at o0
      obtain ⟨d', hd'⟩ := t.go.lowO d hd
      obtain ⟨b', o, h1, _, h3, _⟩ := t.go.rel.own hd'
      rw [t.go.low, own0_of o0 hw] at h1
      cases h1
      rw [hb] at h3
      cases h3
    · have := t.go.sameH r0 e hw
      rw [hb] at this
      cases this
theorem TG.goA (t : TG K ρ0 σ0 F0 H0 i p tp as cs ρ σ F H) (g : Go K ρ σ F H ρ1 σ F1 H1) : Go K (ρ.set i (.adr p)) σ F H (ρ1.set i (.adr p)) σ F1 H1 :=
  (t.view.trans t.go.rel g).trans t.go.rel (g.rel.slotAt t.i0 t.slot)
/-- the list itself is changed -/
theorem TG.re (t : TG K ρ0 σ0 F0 H0 i p false as cs ρ σ F H) (r0 : Rel K F0 H0 ρ0 σ0) {as' : List Addr} {cs' : List D} (nd : as'.Nodup) (pa : p ∉ as') (ln : as'.length = cs'.length)
    (ch : ∀ (m : Nat) (a : Addr) (d : D), as'[m]? = some a → cs'[m]? = some d → H0 a = none ∧ F a = none ∧ ¬ Own (ρ.set i (.adr p)) σ a ∧ ∃ o, H a = some o ∧ Ro K F a o d) : TG K ρ0 σ0 F0 H0 i p false as' cs' ρ σ F (upd H p (.lst (as'.map V.ref))) := by
  have g := t.go.touch (o' := .lst (as'.map V.ref)) r0 t.np (t.fp rfl) t.hp t.op
  refine ⟨g, t.he, t.np, t.fp, by rw [upd_same]; rfl, t.op, nd, pa, ln, fun m a d h1 h2 => ?_, t.i0⟩
  obtain ⟨x1, x2, x3, o, x4, x5⟩ := ch m a d h1 h2
  exact ⟨x1, x2, x3, o, by rw [upd_ne (fun e => pa (by rw [← e]; exact List.mem_of_getElem? h1))]; exact x4, x5⟩
end
structure GW (X : Cx) (E : EW) (fr : Bool) (i : Nat) (T : TS) (t : GS) : Prop where
  go : ∀ {ρ0 : Rho} {σ0 : L2.St} {F0 H0 : Hp} {p : Addr} {as : List Addr} {cs : List D} {ρ : Rho} {σ : L2.St} {F H : Hp} {cs' : List D} {ρ' : Rho}, own0 ρ0 = true → Rel X.K F0 H0 ρ0 σ0 → TG X.K ρ0 σ0 F0 H0 i p false as cs ρ σ F H → t cs ρ = some (cs', ρ') →
  ∀ C : Ends, (∀ as' σ' F' H', Same F F' → TG X.K ρ0 σ0 F0 H0 i p false as' cs' ρ' σ' F' H' → C.nx σ' H') → T C σ H
structure GY (X : Cx) (E : EW) (fr : Bool) (i : Nat) (T : TS) (t : List D → XS) : Prop where
  go : ∀ {ρ0 : Rho} {σ0 : L2.St} {F0 H0 : Hp} {p : Addr} {as : List Addr} {cs : List D} {ρ : Rho} {σ : L2.St} {F H : Hp}, own0 ρ0 = true → Rel X.K F0 H0 ρ0 σ0 → TG X.K ρ0 σ0 F0 H0 i p false as cs ρ σ F H →
  ∀ C : Ends, PendS X.K E fr (fun _ => t cs ρ) ρ0 σ0 F0 H0 C → T C σ H
structure GV (X : Cx) (E : EW) (i : Nat) (w : TE) (tv : List D → XV) : Prop where
  go : ∀ {ρ0 : Rho} {σ0 : L2.St} {F0 H0 : Hp} {p : Addr} {as : List Addr} {cs : List D} {ρ : Rho} {σ : L2.St} {F H : Hp} {v : D} {ρ1 : Rho}, own0 ρ0 = true → Rel X.K F0 H0 ρ0 σ0 → TG X.K ρ0 σ0 F0 H0 i p false as cs ρ σ F H → tv cs ρ = .ok v ρ1 → ρ1[i]? = some .emp →
  ∀ Q : VK, (∀ x F1 H1, Go X.K ρ σ F H ρ1 σ F1 H1 → TG X.K ρ0 σ0 F0 H0 i p false as cs ρ1 σ F1 H1 → Rp X.K F1 x v → Q x H1) → w σ H Q
structure GC (X : Cx) (E : EW) (i : Nat) (w : TT) (tc : List D → XT) : Prop where
  go : ∀ {ρ0 : Rho} {σ0 : L2.St} {F0 H0 : Hp} {p : Addr} {as : List Addr} {cs : List D} {ρ : Rho} {σ : L2.St} {F H : Hp} {b : Bool} {ρ1 : Rho}, own0 ρ0 = true → Rel X.K F0 H0 ρ0 σ0 → TG X.K ρ0 σ0 F0 H0 i p false as cs ρ σ F H → tc cs ρ = .ok b ρ1 → ρ1[i]? = some .emp →
  ∀ Q : Bool → Hp → Prop, (∀ F1 H1, Same F F1 → TG X.K ρ0 σ0 F0 H0 i p false as cs ρ1 σ F1 H1 → Q b H1) → w σ H Q
def gYIf (i : Nat) (tc : List D → XT) (t1 t2 : List D → XS) : List D → XS := fun cs ρ => match tc cs ρ with
  | .ok b ρ1 => if isEmp i ρ1 = true then (if b = true then t1 cs ρ1 else t2 cs ρ1) else .bad
  | _ => .bad
def gWIf (i : Nat) (tc : List D → XT) (t1 t2 : GS) : GS := fun cs ρ => gk i (tc cs ρ) fun b ρ1 => if b = true then t1 cs ρ1 else t2 cs ρ1
def gYSeq (t : List D → XS) (u : XS) : List D → XS := fun cs ρ => (t cs ρ).seq u
def gvOld {α : Type} (te : Rho → Res α) : List D → Rho → Res α := fun _ => te
def gE {α β : Type} (i : Nat) (r : Res α) (k : α → Rho → Res β) : Res β := match r with
  | .ok a ρ1 => if isEmp i ρ1 = true then k a ρ1 else .bad
  | _ => .bad
theorem gE_of {α β : Type} {i : Nat} {r : Res α} {k : α → Rho → Res β} {b : β} {ρ2 : Rho} (h : gE i r k = .ok b ρ2) : ∃ a ρ1, r = .ok a ρ1 ∧ ρ1[i]? = some .emp ∧ k a ρ1 = .ok b ρ2 := by
  unfold gE at h
  split at h
  · split at h
    · rename_i h2
      exact ⟨_, _, rfl, isEmp_of h2, h⟩
    · cases h
  · cases h
def gcAnd (i : Nat) (a b : List D → XT) : List D → XT := fun cs ρ => gE i (a cs ρ) fun c ρ1 => if c = true then b cs ρ1 else .ok false ρ1
def gvLen : List D → XV := fun cs ρ => .ok (.int cs.length) ρ
def gvLenAt (i : Nat) (tc : XV) : List D → XV := fun cs ρ => gE i (tc ρ) fun j ρ1 => match gAt cs j with
  | some (_, .lst ds) => .ok (.int ds.length) ρ1
  | _ => .bad
def gcNe (i : Nat) (tc : XV) : List D → XT := fun cs ρ => gE i (tc ρ) fun j ρ1 => match gAt cs j with
  | some (_, d) => (match dNe d (.lst []) with
    | some (.bl b) => .ok b ρ1
    | _ => .bad)
  | none => .bad
def gvOp (i : Nat) (f : D → D → Option D) (tv : List D → XV) (t2 : XV) : List D → XV := fun cs ρ => gE i (tv cs ρ) fun x ρ1 => gE i (t2 ρ1) fun y ρ2 => match f x y with
  | some d => .ok d ρ2
  | none => .bad
def gvCall (g : DF) (i : Nat) (tv : List D → XV) : List D → XV := fun cs ρ => gE i (tv cs ρ) fun x ρ1 => match ownD 0 ρ1 with
  | none => .bad
  | some d0 => (g [d0, x]).resB 0 ρ1
def gWSet (i j : Nat) (tv : List D → XV) : GS := fun cs ρ => gk i (tv cs ρ) fun v ρ1 => some (cs, ρ1.set j (.val v))
def gWPut (i : Nat) (tk : XV) : GS := fun cs ρ => gk i (tk ρ) fun k ρ1 => match k with
  | .int kk => (ixN cs.length kk).map fun m => (cs.set m (.lst []), ρ1)
  | _ => none
def gWPop (i : Nat) (tc : XV) (tv : List D → XV) : GS := fun cs ρ => gk i (tc ρ) fun j ρ1 => gk i (tv cs ρ1) fun v ρ2 => (gAt cs j).bind fun x => match x.2, v with
  | .lst ds, .int k => if inR k = true then (ixN ds.length k).bind fun n => (ds[n]?).map fun _ => (cs.set x.1 (.lst (ds.eraseIdx n)), ρ2) else none
  | _, _ => none
def gWIns (i : Nat) (tc : XV) (tv : List D → XV) (te : XV) : GS := fun cs ρ => gk i (tc ρ) fun j ρ1 => gk i (tv cs ρ1) fun v ρ2 => gk i (te ρ2) fun e ρ3 => (gAt cs j).bind fun x => match x.2, v with
  | .lst ds, .int k => if (0 ≤ k ∧ inR k = true) ∧ ds.length < sizeLine then some (cs.set x.1 (.lst (ds.take k.toNat ++ [e] ++ ds.drop k.toNat)), ρ3) else none
  | _, _ => none
section
variable {X : Cx} {E : EW} {fr : Bool} {i : Nat} {T T1 T2 : TS} {t t1 t2 : GS} {u1 u2 : List D → XS}
theorem gw_of (h : GT X E fr i T t) : GW X E fr i T t := ⟨fun o0 r0 g e C N => h.go r0 g e C fun σ' F' H' s t' => N _ _ _ _ s t'⟩
theorem gw_nil : GW X E fr i tNext gNil := gw_of gt_nil
theorem gw_app {tc te : XV} : GW X E fr i (tDrop (tBM X.K "list" rAppend (tOp (rIx X.K) (tVar i) (lE X.K E tc)) (tCons (lE X.K E te) tNil))) (gApp i tc te) := gw_of gt_app
theorem gw_seq (h1 : GW X E fr i T1 t1) (h2 : GW X E fr i T2 t2) : GW X E fr i (tSeq T1 T2) (gSeq t1 t2) := by
  constructor
  intro ρ0 σ0 F0 H0 p as cs ρ σ F H cs' ρ' o0 r0 t h C N
  unfold gSeq at h
  cases e : t1 cs ρ with
  | none => rw [e] at h; cases h
  | some x =>
    obtain ⟨c1, ρ1⟩ := x
    rw [e] at h
    exact h1.go o0 r0 t e { C with nx := T2 C } fun as' σ' F' H' s t' => h2.go o0 r0 t' h C fun as2 σ2 F2 H2 s2 t2 => N _ _ _ _ (s.trans s2) t2
theorem gy_cons (h1 : GW X E fr i T1 t1) (h2 : GY X E fr i T2 u2) : GY X E fr i (tSeq T1 T2) (gThen t1 u2) := by
  constructor
  intro ρ0 σ0 F0 H0 p as cs ρ σ F H o0 r0 t C q
  unfold PendS gThen at q
  cases e : t1 cs ρ with
  | none => simp only [e] at q
  | some x =>
    obtain ⟨c1, ρ1⟩ := x
    simp only [e] at q
    exact h1.go o0 r0 t e { C with nx := T2 C } fun as' σ' F' H' s t' => h2.go o0 r0 t' C (by unfold PendS; exact q)
theorem gy_end {u : XS} : GY X E fr i (lS X.K E fr u) (gEnd i false u) := ⟨fun _ r0 t C q => (ge_end (tp := false)).go r0 t C q⟩
theorem gy_seq {u : XS} (h : GY X E fr i T1 u1) : GY X E fr i (tSeq T1 (lS X.K E fr u)) (gYSeq u1 u) := by
  constructor
  intro ρ0 σ0 F0 H0 p as cs ρ σ F H o0 r0 t C q
  refine h.go o0 r0 t { C with nx := lS X.K E fr u C } ?_
  exact PendS.seq (t := fun _ => u1 cs ρ) (u := u) r0 q
theorem gw_if {w : TT} {tc : List D → XT} (hc : GC X E i w tc) (h1 : GW X E fr i T1 t1) (h2 : GW X E fr i T2 t2) : GW X E fr i (tIfS w T1 T2) (gWIf i tc t1 t2) := by
  constructor
  intro ρ0 σ0 F0 H0 p as cs ρ σ F H cs' ρ' o0 r0 t h C N
  obtain ⟨b, ρ1, e, he, h⟩ := gk_of h
  refine hc.go o0 r0 t e he _ fun F1 H1 s u => ?_
  cases b with
  | true =>
    rw [if_pos rfl] at h ⊢
    exact h1.go o0 r0 u h C fun as' σ2 F2 H2 s2 t2 => N _ _ _ _ (s.trans s2) t2
  | false =>
    rw [if_neg Bool.false_ne_true] at h ⊢
    exact h2.go o0 r0 u h C fun as' σ2 F2 H2 s2 t2 => N _ _ _ _ (s.trans s2) t2
theorem gy_if {w : TT} {tc : List D → XT} (hc : GC X E i w tc) (h1 : GY X E fr i T1 u1) (h2 : GY X E fr i T2 u2) : GY X E fr i (tIfS w T1 T2) (gYIf i tc u1 u2) := by
  constructor
  intro ρ0 σ0 F0 H0 p as cs ρ σ F H o0 r0 t C q
  unfold PendS gYIf at q
  cases e : tc cs ρ with
  | bad => simp only [e] at q
  | exc _ _ => simp only [e] at q
  | ok b ρ1 =>
  simp only [e] at q
  by_cases he : isEmp i ρ1 = true
  rotate_left
  · simp only [if_neg he] at q
  simp only [if_pos he] at q
  refine hc.go o0 r0 t e (isEmp_of he) _ fun F1 H1 s u => ?_
  cases b with
  | true =>
    rw [if_pos rfl]
    exact h1.go o0 r0 u C (by unfold PendS; exact q)
  | false =>
    rw [if_neg Bool.false_ne_true]
    exact h2.go o0 r0 u C (by unfold PendS; exact q)
theorem gc_old {c : XT} : GC X E i (lT X.K E c) (gvOld c) := by
  constructor
  intro ρ0 σ0 F0 H0 p as cs ρ σ F H b ρ1 o0 r0 t e he Q N
  refine ⟨F, ρ, t.view.rel, ?_⟩
  unfold Pend
  unfold gvOld at e
  simp only [e]
  exact fun F1 H1 g => N F1 H1 g.ex (t.after r0 he g)
theorem gv_old {c : XV} : GV X E i (lE X.K E c) (gvOld c) := by
  constructor
  intro ρ0 σ0 F0 H0 p as cs ρ σ F H b ρ1 o0 r0 t e he Q N
  refine ⟨F, ρ, t.view.rel, ?_⟩
  unfold Pend
  unfold gvOld at e
  simp only [e]
  exact fun F1 H1 g v rv => N v F1 H1 g (t.after r0 he g) rv
theorem gc_and {w w2 : TT} {a b : List D → XT} (h1 : GC X E i w a) (h2 : GC X E i w2 b) : GC X E i (tAnd w w2) (gcAnd i a b) := by
  constructor
  intro ρ0 σ0 F0 H0 p as cs ρ σ F H c ρ2 o0 r0 t h he Q N
  obtain ⟨c1, ρ1, e, he1, h⟩ := gE_of h
  refine h1.go o0 r0 t e he1 _ fun F1 H1 s u => ?_
  cases c1 with
  | true =>
    rw [if_pos rfl] at h ⊢
    exact h2.go o0 r0 u h he Q fun F2 H2 s2 u2 => N _ _ (s.trans s2) u2
  | false =>
    rw [if_neg Bool.false_ne_true] at h ⊢
    cases h
    exact N _ _ s u
theorem gv_len : GV X E i (tCB (fun xs H Q => ∃ p ys, xs = [.ref p] ∧ (SqL X.K H p ys ∨ SqT X.K H p ys) ∧ Q (.int ys.length) H) (tCons (tVar i) tNil)) gvLen := by
  constructor
  intro ρ0 σ0 F0 H0 p as cs ρ σ F H b ρ1 o0 r0 t e he Q N
  cases e
  refine ⟨.ref p, t.slot, p, as.map V.ref, rfl, .inl (SqL.of t.hp), ?_⟩
  refine N _ F H (Go.refl t.view.rel) t ?_
  rw [List.length_map, t.ln]
  exact .int _
theorem gv_lenAt {tc : XV} : GV X E i (tCB (fun xs H Q => ∃ p ys, xs = [.ref p] ∧ (SqL X.K H p ys ∨ SqT X.K H p ys) ∧ Q (.int ys.length) H) (tCons (tOp (rIx X.K) (tVar i) (lE X.K E tc)) tNil)) (gvLenAt i tc) := by
  constructor
  intro ρ0 σ0 F0 H0 p as cs ρ σ F H b ρ2 o0 r0 t h he Q N
  obtain ⟨j, ρ1, e1, he1, h⟩ := gE_of h
  cases hg : gAt cs j with
  | none => rw [hg] at h; cases h
  | some x =>
  obtain ⟨m, d⟩ := x
  rw [hg] at h
  split at h
  rotate_left
  · cases h
  rename_i hd
  cases hd
  cases h
  obtain ⟨n, rfl, hx, hc⟩ := gAt_of hg
  obtain ⟨a, ha⟩ := as_at t.ln hc
  refine ⟨.ref p, t.slot, F, ρ, t.view.rel, ?_⟩
  unfold Pend
  simp only [e1]
  intro F1 H1 g1 y ry
  have u1 := t.after r0 he1 g1
  cases ry
  refine u1.ix hx ha ?_
  obtain ⟨x1, x2, x3, o, x4, x5⟩ := u1.ch m a _ ha hc
  obtain ⟨xs, rfl, x6⟩ := own_lst x5
  refine ⟨a, xs, rfl, .inl (SqL.of x4), ?_⟩
  refine N _ F1 H1 g1 u1 ?_
  rw [x6.length]
  exact .int _
theorem gc_ne {tc : XV} : GC X E i (tTest (tOp (rNeD X.K) (tOp (rIx X.K) (tVar i) (lE X.K E tc)) (tLst tNil))) (gcNe i tc) := by
  constructor
  intro ρ0 σ0 F0 H0 p as cs ρ σ F H b ρ2 o0 r0 t h he Q N
  obtain ⟨j, ρ1, e1, he1, h⟩ := gE_of h
  cases hg : gAt cs j with
  | none => rw [hg] at h; cases h
  | some x =>
  obtain ⟨m, d⟩ := x
  rw [hg] at h
  simp only at h
  split at h
  rotate_left
  · cases h
  rename_i b' hd
  cases h
  obtain ⟨n, rfl, hx, hc⟩ := gAt_of hg
  obtain ⟨a, ha⟩ := as_at t.ln hc
  refine ⟨.ref p, t.slot, F, ρ, t.view.rel, ?_⟩
  unfold Pend
  simp only [e1]
  intro F1 H1 g1 y ry
  have u1 := t.after r0 he1 g1
  cases ry
  refine u1.ix hx ha ?_
  obtain ⟨x1, x2, x3, o, x4, x5⟩ := u1.ch m a _ ha hc
  refine ⟨Nat.zero_le _, fun q hq => ?_⟩
  have gq : Gr F1 H1 F1 (upd H1 q (.lst [])) := Gr.newO u1.go.rel.ex hq
  have u2 := u1.after r0 he (gq.go u1.view.rel)
  have aq : a ≠ q := fun z => by rw [z, hq] at x4; cases x4
  obtain ⟨F2, hF2⟩ : ∃ F2 : Hp, F2 = upd (upd F1 a o) q (.lst []) := ⟨_, rfl⟩
  have fa : F2 a = some o := by rw [hF2, upd_ne aq, upd_same]
  have fq : F2 q = some (.lst []) := by rw [hF2, upd_same]
  have ex2 : Same F2 (upd H1 q (.lst [])) := fun c w z => by
    by_cases c1 : c = q
    · rw [c1] at z ⊢
      rw [fq] at z
      rw [upd_same, z]
    · rw [hF2, upd_ne c1] at z
      rw [upd_ne c1]
      by_cases c2 : c = a
      · rw [c2] at z ⊢
        rw [upd_same] at z
        rw [← z]
        exact x4
      · rw [upd_ne c2] at z
        exact u1.go.rel.ex c w z
  have ex1 : Same F1 F2 := fun c w z => by
    have c1 : c ≠ q := fun e => by
      have := u1.go.rel.ex c w z
      rw [e, hq] at this
      cases this
    have c2 : c ≠ a := fun e => by rw [e, x2] at z; cases z
    rw [hF2, upd_ne c1, upd_ne c2]
    exact z
  refine imp_ne F2 _ _ _ _ _ _ _ ex2 (ro_rpG ex1 fa x5) (.lst fq .nil) hd fun v F3 H3 g3 rv => ?_
  cases rv
  have g4 : Gr F1 (upd H1 q (.lst [])) F1 H3 := ⟨Same.refl F1, g3.exH, fun c w z => g3.exH c w (gq.sub c w z), fun _ _ _ _ z => z⟩
  exact ⟨b, rfl, N _ _ g1.ex (u2.after r0 he (g4.go u2.view.rel))⟩
theorem gv_op {f : D → D → Option D} {r : R2} (hi : Imp2 X.K f r) {w : TE} {tv : List D → XV} {tb : XV} (hw : GV X E i w tv) : GV X E i (tOp r w (lE X.K E tb)) (gvOp i f tv tb) := by
  constructor
  intro ρ0 σ0 F0 H0 p as cs ρ σ F H b ρ3 o0 r0 t h he Q N
  obtain ⟨x, ρ1, e1, he1, h⟩ := gE_of h
  obtain ⟨y, ρ2, e2, he2, h⟩ := gE_of h
  split at h
  rotate_left
  · cases h
  rename_i d hd
  cases h
  refine hw.go o0 r0 t e1 he1 _ fun v F1 H1 g1 u1 rv => ?_
  refine ⟨F1, ρ1, u1.view.rel, ?_⟩
  unfold Pend
  simp only [e2]
  intro F2 H2 g2 w2 rw2
  have u2 := u1.after r0 he2 g2
  refine hi F2 H2 v w2 x y _ Q u2.view.rel.ex (rv.mono g2.ex) rw2 hd fun z F3 H3 g3 rz => ?_
  have g4 := g3.go u2.view.rel
  exact N z F3 H3 ((g1.trans t.view.rel g2).trans t.view.rel g4) (u2.after r0 he2 g4) rz
end
section
variable {X : Cx} {cv : String → Value} {W : WX} {i : Nat}
theorem gv_call {g : DF} {w : TE} {tv : List D → XV} (hw : GV X (EWx cv W) i w tv) : GV X (EWx cv W) i (tCallS (spB X.K cv false [false] g) (WE W) (tCons (tVar 0) (tCons w tNil))) (gvCall g i tv) := by
  constructor
  intro ρ0 σ0 F0 H0 p as cs ρ σ F H b ρ2 o0 r0 t h he Q N
  obtain ⟨x, ρ1, e1, he1, h⟩ := gE_of h
  cases e0 : ownD 0 ρ1 with
  | none => rw [e0] at h; cases h
  | some d0 =>
  rw [e0] at h
  simp only at h
  obtain ⟨d00, hd00⟩ := own0_at o0
  obtain ⟨d', hd'⟩ := (t.go.trans r0 t.view).lowO d00 hd00
  obtain ⟨q, oq, h1, _, _, _⟩ := t.view.rel.own hd'
  refine ⟨.ref q, h1, hw.go o0 r0 t e1 he1 _ fun v F1 H1 g1 u1 rv => ?_⟩
  obtain ⟨b1, o1, k1, k2, k3, k4⟩ := u1.view.rel.own (ownD_of e0)
  rw [h1] at k1
  cases k1
  refine ⟨F1, q, o1, d0, [v], [x], rfl, u1.view.rel.ex, k2, k3, k4, .val rv .nil, ?_⟩
  unfold FR.resB at h
  split at h
  · rename_i e2
    cases h
    try rw [e2]
    intro F2 H2 o2 gr z1 z2 z3
    have g2 := go_bor u1.view.rel (ownD_of e0) h1 gr z1 z2 z3
    have u2 := u1.after r0 he g2
    exact ⟨fun _ z rz => N z F2 H2 (g1.trans t.view.rel g2) u2 rz, fun z => by cases z⟩
  · cases h
  · cases h
end

def rInsL : V → List V → Hp → VK → Prop := fun x vs H Q => ∃ (l : Addr) (xs : List V) (i : Int) (y : V), x = .ref l ∧ vs = [.int i, y] ∧ H l = some (.lst xs) ∧ xs.length < sizeLine ∧ 0 ≤ i ∧ i < 2 ^ 63 ∧ Q .non (upd H l (.lst (xs.take i.toNat ++ [y] ++ xs.drop i.toNat)))
theorem mt_insL {X : Cx} : MtR X "list.insert" rInsL := mt_insert
section
variable {X : Cx} {E : EW} {fr : Bool} {i : Nat}
theorem gw_set {j : Nat} {w : TE} {tv : List D → XV} (h0 : j ≠ 0) (hij : j ≠ i) (hw : GV X E i w tv) : GW X E fr i (tAsg w (gName j)) (gWSet i j tv) := by
  constructor
  intro ρ0 σ0 F0 H0 p as cs ρ σ F H cs' ρ' o0 r0 t h C N
  obtain ⟨v, ρ1, e, he, h⟩ := gk_of h
  cases h
  refine hw.go o0 r0 t e he _ fun x F1 H1 g1 u1 rv => ?_
  show C.nx (σ.set j (some x)) H1
  refine N as _ F1 H1 g1.ex (u1.step r0 (by rw [List.getElem?_set_ne hij]; exact he) ?_)
  rw [List.set_comm _ _ hij]
  exact Go.setVal h0 u1.go.rel rv
theorem gw_put {tk : XV} : GW X E fr i (tAsg (tLst tNil) (gSub (tVar i) (lE X.K E tk) rSetL)) (gWPut i tk) := by
  constructor
  intro ρ0 σ0 F0 H0 p as cs ρ σ F H cs' ρ' o0 r0 t h C N
  obtain ⟨k, ρ1, e1, he1, h⟩ := gk_of h
  split at h
  rotate_left
  · cases h
  rename_i kk
  cases ex : ixN cs.length kk with
  | none => rw [ex] at h; cases h
  | some m =>
  rw [ex] at h
  cases h
  refine ⟨Nat.zero_le _, fun b hb => ?_⟩
  have t1 := t.after r0 t.he ((Gr.newO (o := .lst []) t.go.rel.ex hb).go t.view.rel)
  have nb : ¬ Own (ρ.set i (.adr p)) σ b := not_own_new t.go.rel hb
  have fb : F b = none := t.go.rel.ex.free hb
  have b0 := t.new0 r0 o0 hb
  have pb : p ≠ b := fun z => by have := t.hp; rw [z, hb] at this; cases this
  have bas : b ∉ as := fun z => by
    obtain ⟨m', hm'⟩ := List.getElem?_of_mem z
    have hl : m' < cs.length := by have := (List.getElem?_eq_some_iff.mp hm').1; have := t.ln; omega
    obtain ⟨_, _, _, o, x4, _⟩ := t.ch m' b _ hm' (List.getElem?_eq_getElem hl)
    rw [hb] at x4
    cases x4
  refine ⟨.ref p, t.slot, F, ρ, t1.view.rel, ?_⟩
  unfold Pend
  simp only [e1]
  intro F2 H2 g2 y ry
  cases ry
  have gA := t1.goA g2
  have t2 := t1.after r0 he1 g2
  obtain ⟨k1, k2⟩ := gA.keep b _ upd_same fb nb
  have n2 := own_back2 t1.go.rel gA upd_same nb
  refine ⟨p, as.map V.ref, kk, m, rfl, rfl, t2.hp, by rw [List.length_map, t2.ln]; exact ex, ?_⟩
  rw [show (as.map V.ref).set m (.ref b) = (as.set m b).map V.ref by rw [List.map_set]]
  refine N (as.set m b) σ F2 _ g2.ex (t2.re r0 ?_ ?_ ?_ ?_)
  · refine List.pairwise_iff_getElem.mpr fun k l hk hl hkl z => ?_
    rw [List.length_set] at hk hl
    rw [List.getElem_set, List.getElem_set] at z
    split at z <;> split at z
    · omega
    · exact bas (z ▸ List.getElem_mem hl)
    · exact bas (z ▸ List.getElem_mem hk)
    · exact List.pairwise_iff_getElem.mp t.nd k l hk hl hkl z
  · exact fun z => by
      rcases List.mem_or_eq_of_mem_set z with z | z
      · exact t.pa z
      · exact pb z
  · rw [List.length_set, List.length_set]; exact t.ln
  · intro m' a d h1 h2
    rcases get_set h1 with ⟨z1, z2⟩ | ⟨z1, h1⟩
    · rcases get_set h2 with ⟨_, z4⟩ | ⟨z3, _⟩
      · rw [z2, z4]
        exact ⟨b0, k2 nt_lst, n2, _, k1, .lst .nil⟩
      · exact absurd z1 z3
    · rcases get_set h2 with ⟨z3, _⟩ | ⟨_, h2⟩
      · exact absurd z3 z1
      · exact t2.ch m' a d h1 h2
theorem gw_pop {tc : XV} {w : TE} {tv : List D → XV} (hw : GV X E i w tv) : GW X E fr i (tDrop (tBM X.K "list" rPopAt (tOp (rIx X.K) (tVar i) (lE X.K E tc)) (tCons w tNil))) (gWPop i tc tv) := by
  constructor
  intro ρ0 σ0 F0 H0 p as cs ρ σ F H cs' ρ' o0 r0 t h C N
  obtain ⟨j, ρ1, e1, he1, h⟩ := gk_of h
  obtain ⟨v, ρ2, e2, he2, h⟩ := gk_of h
  cases hg : gAt cs j with
  | none => rw [hg] at h; cases h
  | some x =>
  obtain ⟨m, d⟩ := x
  rw [hg] at h
  simp only [Option.bind_some] at h
  split at h
  rotate_left
  · cases h
  rename_i ds k
  by_cases hk : inR k = true
  rotate_left
  · rw [if_neg hk] at h; cases h
  rw [if_pos hk] at h
  cases en : ixN ds.length k with
  | none => rw [en] at h; cases h
  | some n =>
  rw [en] at h
  simp only [Option.bind_some] at h
  cases ed : ds[n]? with
  | none => rw [ed] at h; cases h
  | some dy =>
  rw [ed] at h
  cases h
  obtain ⟨n', rfl, hx, hc⟩ := gAt_of hg
  obtain ⟨a, ha⟩ := as_at t.ln hc
  refine ⟨.ref p, t.slot, F, ρ, t.view.rel, ?_⟩
  unfold Pend
  simp only [e1]
  intro F1 H1 g1 y ry
  have u1 := t.after r0 he1 g1
  cases ry
  refine u1.ix hx ha ?_
  obtain ⟨x1, x2, x3, o, x4, x5⟩ := u1.ch m a _ ha hc
  obtain ⟨xs, rfl, _⟩ := own_lst x5
  refine ⟨.inl ⟨rfl, xs, SqL.of x4⟩, hw.go o0 r0 u1 e2 he2 _ fun w2 F2 H2 g2 u2 rw2 => ?_⟩
  obtain ⟨y1, y2, y3, o2, y4, y5⟩ := u2.ch m a _ ha hc
  obtain ⟨ys, rfl, y6⟩ := own_lst y5
  cases rw2
  obtain ⟨vy, hvy, _⟩ := y6.get ed
  have hj := (inR_iff k).mp hk
  exact ⟨a, ys, k, n, vy, rfl, rfl, y4, by omega, by omega, by rw [y6.length]; exact (ixN_seq en).1, hvy, N as σ F2 _ (g1.ex.trans g2.ex) (u2.mut r0 ha hc (.lst (y6.erase n)))⟩
theorem gw_ins {tc te : XV} {w : TE} {tv : List D → XV} (hw : GV X E i w tv) : GW X E fr i (tDrop (tBM X.K "list" rInsL (tOp (rIx X.K) (tVar i) (lE X.K E tc)) (tCons w (tCons (lE X.K E te) tNil)))) (gWIns i tc tv te) := by
  constructor
  intro ρ0 σ0 F0 H0 p as cs ρ σ F H cs' ρ' o0 r0 t h C N
  obtain ⟨j, ρ1, e1, he1, h⟩ := gk_of h
  obtain ⟨v, ρ2, e2, he2, h⟩ := gk_of h
  obtain ⟨z, ρ3, e3, he3, h⟩ := gk_of h
  cases hg : gAt cs j with
  | none => rw [hg] at h; cases h
  | some x =>
  obtain ⟨m, d⟩ := x
  rw [hg] at h
  simp only [Option.bind_some] at h
  split at h
  rotate_left
  · cases h
  rename_i ds k hh
  split at h
  rotate_left
  · cases h
  rename_i hk
  cases h
  obtain ⟨n', rfl, hx, hc⟩ := gAt_of hg
  obtain ⟨a, ha⟩ := as_at t.ln hc
  refine ⟨.ref p, t.slot, F, ρ, t.view.rel, ?_⟩
  unfold Pend
  simp only [e1]
  intro F1 H1 g1 y ry
  have u1 := t.after r0 he1 g1
  cases ry
  refine u1.ix hx ha ?_
  obtain ⟨x1, x2, x3, o, x4, x5⟩ := u1.ch m a _ ha hc
  obtain ⟨xs, rfl, _⟩ := own_lst x5
  refine ⟨.inl ⟨rfl, xs, SqL.of x4⟩, hw.go o0 r0 u1 e2 he2 _ fun w2 F2 H2 g2 u2 rw2 => ?_⟩
  refine ⟨F2, ρ2, u2.view.rel, ?_⟩
  unfold Pend
  simp only [e3]
  intro F3 H3 g3 w3 rw3
  have u3 := u2.after r0 he3 g3
  obtain ⟨y1, y2, y3, o2, y4, y5⟩ := u3.ch m a _ ha hc
  obtain ⟨ys, rfl, y6⟩ := own_lst y5
  cases rw2
  have hj := (inR_iff k).mp hk.1.2
  exact ⟨a, ys, k, w3, rfl, rfl, y4, by rw [y6.length]; exact hk.2, hk.1.1, by omega, N as σ F3 _ ((g1.ex.trans g2.ex).trans g3.ex) (u3.mut r0 ha hc (.lst (((y6.take k.toNat).append (.cons rw3 .nil)).append (y6.drop k.toNat))))⟩
end
def lIns (i : Nat) (k v : D) : List D → XS := fun ds ρ2 => match k with
  | .int kk => if (0 ≤ kk ∧ inR kk = true) ∧ ds.length < sizeLine then .nx (ρ2.set i (.own (.lst (ds.take kk.toNat ++ [v] ++ ds.drop kk.toNat)))) else .bad
  | _ => .bad
def xLIns (i : Nat) (tk te : XV) : XS := withL i fun _ ρ => (tk ρ).fl fun k ρ1 => (te ρ1).fl fun v => withL i (lIns i k v)
theorem xs_lins {X : Cx} {E : EW} {fr : Bool} {i : Nat} {e : Expr} {tk te : XV} {pos : Pos} (hs : PE X e (tBM X.K "list" rInsL (tVar i) (tCons (lE X.K E tk) (tCons (lE X.K E te) tNil)))) (hq : swapsWith e none pos.line X.env = pure false := by rfl) :
    PS X (.Expr e pos) (lS X.K E fr (xLIns i tk te)) := ps_imp (ps_expr hs hq) fun C σ H h => by
  obtain ⟨F, ρ, r, p⟩ := h
  obtain ⟨ds0, e0, p⟩ := PendS.withL p
  obtain ⟨b, xs, h1, h2, h3, h4⟩ := r.ownL e0
  refine ⟨.ref b, h1, .inl ⟨rfl, xs, SqL.of h3⟩, F, ρ, r, (PendS.fl r p).mono fun k ρ1 F1 H1 g1 q v rv => ?_⟩
  refine ⟨F1, ρ1, g1.rel, (PendS.fl g1.rel q).mono fun d ρ2 F2 H2 g2 q w rw2 => ?_⟩
  obtain ⟨ds, e1, q⟩ := PendS.withL q
  have g := g1.trans r g2
  obtain ⟨b1, xs1, k1, k2, k3, k4⟩ := g.rel.ownL e1
  rw [h1] at k1
  cases k1
  unfold PendS lIns at q
  cases k with
  | int kk =>
    simp only at q
    by_cases hc : (0 ≤ kk ∧ inR kk = true) ∧ ds.length < sizeLine
    · simp only [if_pos hc] at q
      cases rv
      have hj := (inR_iff kk).mp hc.1.2
      exact ⟨b, xs1, kk, w, rfl, rfl, k3, by rw [k4.length]; exact hc.2, hc.1.1, by omega, q σ F2 _ (Go.mut g.rel e1 h1 k2 k3 (.lst (((k4.take kk.toNat).append (.cons rw2 .nil)).append (k4.drop kk.toNat))))⟩
    · simp only [if_neg hc] at q
  | _ => simp only at q
theorem pe_callBw {X : Cx} {cv : String → Value} {W : WX} {md : List Bool} {k : Nat} {f : Addr} {fd : FuncData} {ps : List Str} {g : DF} {x y : Str} {p yp pos : Pos} {es : List Expr} {i : Nat} {t : TA} (tk : Takes X W) (FN : FnOk X.prog X.w X.K X.mg X.base (L2.CX X.prog X.w) k f fd ps (spB X.K cv false md g)) (hr : Room k X.A) (hg : Gl X x) (hm : X.mg x = some (.ref f)) (hk : PySem.W.keepIn X.K (.ref f) = true) (hb : Binds X.K fd ps [])
    (hy : PE X (.Name y yp) (tVar i)) (ha : PA X es t) (hdb : (x == ("__debug__" : Str)) = false := by decide) (he : starEach (.Name y yp :: es) X.env = (false, eval (.Name y yp) X.env) :: starEach es X.env := by rfl) (hpl : (backTo pos (starEach es X.env)).any (·.1) = false := by rfl) :
    PE X (.Call (.Name x p) (.Name y yp :: es) [] pos) (tCallS (spB X.K cv false md g) (WE W) (tCons (tVar i) t)) := pe_callS FN hr hg hm hk hb (passAt tk) (pa_cons hy ha he) hdb he hpl
def lcRunW (g : XG) (te : XV) (vs : List Nat) : List D → List D → Rho → Option (List D × Rho)
  | [], acc, ρ => if own0 ρ = true then some (acc, ρ) else none
  | d :: r, acc, ρ => if own0 ρ = true then (match g d (wipeR ρ vs) with
    | none => none
    | some ρ4 => if own0 ρ4 = true then (match te ρ4 with
      | .ok y ρ5 => lcRunW g te vs r (acc ++ [y]) (backR ρ ρ5 vs)
      | _ => none) else none) else none
theorem lcRunW_own {g : XG} {te : XV} {vs : List Nat} : ∀ {ds acc : List D} {ρ : Rho} {x : List D × Rho}, lcRunW g te vs ds acc ρ = some x → own0 ρ = true
  | [], acc, ρ, x, h => by
    unfold lcRunW at h
    split at h
    · assumption
    · cases h
  | d :: r, acc, ρ, x, h => by
    unfold lcRunW at h
    split at h
    · assumption
    · cases h
def xRegW (i : Nat) (ti : XA) (g : XG) (te : XV) (vs : List Nat) (t : List D → XS) : XS := fun ρ => if own0 ρ = true then (match ti ρ with
  | .ok ds ρ1 => if ds.length ≤ sizeLine ∧ noOwn ρ1 vs = true then (match lcRunW g te vs ds [] ρ1 with
    | some (acc, ρ') => if i < ρ'.length then t acc (ρ'.set i .emp) else .bad
    | none => .bad) else .bad
  | _ => .bad) else .bad
section
variable {X : Cx} {E : EW} {fr : Bool} {i : Nat} {T : TS} {t : List D → XS}
theorem regW_of {ti : XA} {g : XG} {te : XV} {vs : List Nat} (h0 : i ≠ 0) (hv0 : 0 ∉ vs) (ge : GY X E fr i T t) {C : Ends} {σ : L2.St} {H : Hp} (h : lS X.K E fr (xRegW i ti g te vs t) C σ H) : tSeq (tAsg (tLc (lI X.K E ti) (lG X.K (tOnly vs) g) (lT X.K E0 xYes) (lN X.K E0 te) vs) (gName i)) T C σ H := by
  obtain ⟨F, ρ, r, p⟩ := h
  unfold PendS xRegW at p
  by_cases n0 : own0 ρ = true
  rotate_left
  · simp only [if_neg n0] at p
  simp only [if_pos n0] at p
  cases e1 : ti ρ with
  | bad => simp only [e1] at p
  | exc c ρ1 => simp only [e1] at p
  | ok ds ρ1 =>
  simp only [e1] at p
  by_cases hc : ds.length ≤ sizeLine ∧ noOwn ρ1 vs = true
  rotate_left
  · simp only [if_neg hc] at p
  simp only [if_pos hc] at p
  cases e2 : lcRunW g te vs ds [] ρ1 with
  | none => simp only [e2] at p
  | some x =>
  obtain ⟨acc, ρ'⟩ := x
  simp only [e2] at p
  by_cases hl : i < ρ'.length
  rotate_left
  · simp only [if_neg hl] at p
  simp only [if_pos hl] at p
  have q : PendS X.K E fr (fun _ => t acc (ρ'.set i .emp)) ρ σ F H C := by unfold PendS; exact p
  clear p
  have n1 : own0 ρ1 = true := lcRunW_own e2
  show tLc _ _ _ _ _ σ H fun x H1 => gName i x σ H1 (T C)
  refine ⟨F, ρ, r, Pend.okE e1 fun F1 H1 g1 J hJ A hA => ?_⟩
  have r1 := g1.rel
  have nA : own0 ρ1 = true := lcRunW_own e2
  obtain ⟨dq, hdq⟩ := own0_at nA
  obtain ⟨q0, oq, sq, _, hq1, _⟩ := r1.own hdq
  have nOwn : ∀ {ρ' : Rho} {σ' : L2.St} {a : Addr}, own0 ρ' = true → σ'[0]? = σ[0]? → a ≠ q0 → ¬ Own ρ' σ' a := fun {ρ' σ' a} k1 k2 k3 z => by
    have := own0_of k1 z
    rw [k2, sq] at this
    cases this
    exact k3 rfl
  have hAF : F1 A = none := r1.ex.free hA
  have qA : A ≠ q0 := fun z => by rw [z, hq1] at hA; cases hA
  have start := (Gr.newO (o := .lst []) r1.ex hA).go r1
  refine ⟨fun j m H' => m = ds.length - j ∧ j ≤ ds.length ∧ ∃ F' ρ2 cs as, Go X.K ρ1 σ F1 H1 ρ2 σ F' H' ∧ noOwn ρ2 vs = true ∧ F' A = none ∧ H' A = some (.lst (as.map V.ref)) ∧ Kids X.K H1 F' H' as cs ∧ cs.length ≤ j ∧ A ∉ as ∧ lcRunW g te vs (ds.drop j) cs ρ2 = some (acc, ρ'),
    ⟨ds.length, by simp, Nat.zero_le _, F1, ρ1, [], [], start, hc.2, hAF, upd_same, ⟨List.nodup_nil, rfl, fun m a d h _ => by simp at h⟩, Nat.le_refl _, List.not_mem_nil, by rw [List.drop_zero]; exact e2⟩, ?_⟩
  rintro j m H' ⟨rfl, hj, F', ρ2, cs, as, go, hno', hf, hh, kd, hl2, hna, hR⟩
  have r' := go.rel
  have n2 : own0 ρ2 = true := lcRunW_own hR
  obtain ⟨z1, z2⟩ := hJ ρ2 σ F' H' go
  by_cases hlt : j < ds.length
  · refine .inr ⟨(z1 j _ (List.getElem?_eq_getElem hlt)).1, fun H2 => j + 1 ≤ ds.length ∧ ∃ F' ρ2 cs as, Go X.K ρ1 σ F1 H1 ρ2 σ F' H2 ∧ noOwn ρ2 vs = true ∧ F' A = none ∧ H2 A = some (.lst (as.map V.ref)) ∧ Kids X.K H1 F' H2 as cs ∧ cs.length ≤ j + 1 ∧ A ∉ as ∧ lcRunW g te vs (ds.drop (j + 1)) cs ρ2 = some (acc, ρ'),
      fun H2 hN => ⟨ds.length - (j + 1), by omega, rfl, hN.1, hN.2⟩, fun x H3 y => ?_⟩
    obtain ⟨F3, g3, rx⟩ := (z1 j _ (List.getElem?_eq_getElem hlt)).2 x H3 y
    have go3 := go.trans r1 (g3.go r')
    rw [List.drop_eq_getElem_cons hlt] at hR
    have fD3 : F3 A = none := g3.keep A _ nt_lst hh hf
    have hD3 : H3 A = some (.lst (as.map V.ref)) := g3.exH A _ hh
    have rw3 := go3.rel.wipe vs
    unfold lcRunW at hR
    rw [if_pos n2] at hR
    cases e : g ds[j] (wipeR ρ2 vs) with
    | none => rw [e] at hR; cases hR
    | some ρ4 =>
    rw [e] at hR
    simp only at hR
    by_cases n4 : own0 ρ4 = true
    rotate_left
    · rw [if_neg n4] at hR; cases hR
    rw [if_pos n4] at hR
    cases et : te ρ4 with
    | bad => rw [et] at hR; cases hR
    | exc c ρ5 => rw [et] at hR; cases hR
    | ok y2 ρ5 =>
    rw [et] at hR
    simp only at hR
    refine ⟨F3, wipeR ρ2 vs, ds[j], ρ4, rw3, rx, e, fun σ4 t4 g4 => ⟨(show wipe σ4 vs = wipe (wipe σ vs) vs from t4).trans (wipe_wipe σ vs), F3, ρ4, g4.rel, Pend.okE (rfl : xYes ρ4 = .ok true ρ4) fun F5 H5 g5 => ?_⟩⟩
    dsimp only
    rw [if_pos rfl]
    have hw4 : wipe σ4 vs = wipe σ vs := (show wipe σ4 vs = wipe (wipe σ vs) vs from t4).trans (wipe_wipe σ vs)
    refine ⟨F5, ρ4, g5.rel, Pend.okE et fun F6 H6 g6 b o f1 f2 f3 f4 f5 => ?_⟩
    have s40 : σ4[0]? = σ[0]? := by
      have w1 := wipe_not (σ := σ4) hv0
      have w2 := wipe_not (σ := σ) hv0
      rw [← w1, hw4, w2]
    have hbq : b ≠ q0 := fun z => by
      obtain ⟨d4, h4⟩ := own0_at n4
      obtain ⟨d5, h5⟩ := g6.lowO d4 h4
      exact f4 ⟨0, d5, h5, by rw [s40, sq, z]⟩
    have hb5 : H5 b = none := f5.resolve_left (nOwn n4 s40 hbq)
    have gg := g4.trans rw3 (g5.trans g4.rel g6)
    have bk := Go.back hv0 go3.rel hno' gg hw4
    have hn2 : ∀ a, a ≠ q0 → ¬ Own ρ2 σ a := fun a z => nOwn n2 rfl z
    obtain ⟨k1, k2⟩ := bk.keep A _ hD3 fD3 (hn2 A qA)
    have n6 := go3.trans r1 bk
    have up5 : ∀ a u, a ≠ q0 → H3 a = some u → H5 a = some u := fun a u y z => g5.sameH g4.rel z (nOwn n4 s40 y)
    have hbA : b ≠ A := fun z => by
      rw [z] at hb5
      rw [up5 A _ qA hD3] at hb5
      cases hb5
    have hb1 : H1 b = none := by
      cases z : H1 b with
      | none => rfl
      | some u =>
        have := up5 b u hbq (g3.exH b u (go.sameH r1 z (nOwn nA rfl hbq)))
        rw [hb5] at this
        cases this
    have hbas : b ∉ as := fun z => by
      obtain ⟨_, _, u, z3⟩ := kd.mem z
      have := up5 b u hbq (g3.exH b u z3)
      rw [hb5] at this
      cases this
    have nO6 : ¬ Own (backR ρ2 ρ5 vs) σ A := nOwn (lcRunW_own hR) rfl qA
    refine ⟨as.map V.ref, k1, ?_, hlt, F6, _, cs ++ [y2], as ++ [b], n6.touch r1 hA (k2 nt_lst) k1 nO6, noOwn_back hno', k2 nt_lst, by rw [List.map_append]; exact upd_same, ⟨?_, ?_, fun m a d h1 h2 => ?_⟩, ?_, ?_, hR⟩
    · rw [List.length_map, kd.ln]
      have := hc.1
      omega
    · exact List.nodup_append.mpr ⟨kd.nd, by simp, fun a ha c hcb e => hbas (by rw [List.mem_singleton.mp hcb] at e; exact e ▸ ha)⟩
    · rw [List.length_append, List.length_append, kd.ln]
      rfl
    · by_cases hm : m < as.length
      · rw [List.getElem?_append_left hm] at h1
        rw [List.getElem?_append_left (by rw [← kd.ln]; exact hm)] at h2
        obtain ⟨x1, x2, u, x3, x4⟩ := kd.ch m a d h1 h2
        have m1 := g3.keep a u x4.nt x3 x2
        have m2 := g3.exH a u x3
        have aq : a ≠ q0 := fun z => by rw [z, hq1] at x1; cases x1
        obtain ⟨m3, m4⟩ := bk.keep a u m2 m1 (hn2 a aq)
        have aA : a ≠ A := fun z => hna (z ▸ List.mem_of_getElem? h1)
        exact ⟨x1, m4 x4.nt, u, by rw [upd_ne aA]; exact m3, x4.mono (g3.ex.trans bk.ex)⟩
      · rw [List.getElem?_append_right (by omega)] at h1
        rw [List.getElem?_append_right (by rw [← kd.ln]; omega), ← kd.ln] at h2
        have hm0 : m - as.length = 0 := by
          have := (List.getElem?_eq_some_iff.mp h1).1
          simp at this
          omega
        rw [hm0] at h1 h2
        cases h1
        cases h2
        exact ⟨hb1, f1, o, by rw [upd_ne hbA]; exact f2, f3⟩
    · rw [List.length_append]
      simp only [List.length_cons, List.length_nil]
      omega
    · exact fun z => by
        rcases List.mem_append.mp z with z | z
        · exact hna z
        · exact hbA (List.mem_singleton.mp z).symm
  · have e : j = ds.length := by omega
    subst e
    refine .inl ⟨z2 _ (Nat.le_refl _), ?_⟩
    rw [List.drop_length] at hR
    unfold lcRunW at hR
    rw [if_pos n2] at hR
    obtain ⟨ea, er⟩ := Prod.mk.inj (Option.some.inj hR)
    subst ea
    subst er
    show T C (σ.set i (some (.ref A))) H'
    have gA := g1.trans r go
    have up : ∀ a, H1 a = none → H a = none := fun a z => by
      cases q1 : H a with
      | none => rfl
      | some u =>
        have aq : a ≠ q0 := fun y => by rw [y, hq1] at z; cases z
        have := g1.sameH r q1 (nOwn n0 rfl aq)
        rw [z] at this
        cases this
    have gB := gA.trans r (Go.setSlot (i := i) (s := .adr A) (o := some (.ref A)) h0 (fun _ z => by cases z) (fun _ z => by cases z) gA.rel .adr)
    have nO : ∀ a, H1 a = none → ¬ Own (ρ2.set i (.adr A)) (σ.set i (some (.ref A))) a := fun a y z => nOwn n2 rfl (fun e => by rw [e, hq1] at y; cases y) (own_set_val (fun _ z => by cases z) z)
    have tg : TG X.K ρ σ F H i A false as cs (ρ2.set i .emp) (σ.set i (some (.ref A))) F' H' := by
      refine ⟨by rw [List.set_set]; exact gB, List.getElem?_set_self hl, up A hA, fun _ => hf, hh, by rw [List.set_set]; exact nO A hA, kd.nd, hna, kd.ln, fun m a d h1 h2 => ?_, h0⟩
      obtain ⟨x1, x2, u, x3, x4⟩ := kd.ch m a d h1 h2
      exact ⟨up a x1, x2, by rw [List.set_set]; exact nO a x1, u, x3, x4⟩
    exact ge.go n0 r tg C q
variable {y : Str} {py spos pos : Pos} {elt tg iter : Expr} {scope : Scope} {own : List (Str × Nat)} {ti : XA} {g : XG} {te : XV} {rest : List Stmt}
/-- X = [.. for ..], one line -/
theorem xs_regW1 (h0 : i ≠ 0) (hc : X.calm = true) (hN : X.N.Nodup) (hy : X.N[i]? = some y) (hyl : X.env.scope.names.lookup y = some .local)
    (hsw : swapsWith (.ListComp elt [⟨tg, iter, [], 0⟩] scope pos) (some (.Name y py)) spos.line X.env = pure true) (hi : PI X tg iter (lI X.K E ti)) (ok : BlkOk X.N X.env.scope scope own)
    (hg : ∀ (s : Shared) (H : Hp) (C : Addr) (cl : List (Str × Addr)) (fp : List Addr), PG (X.blk s H scope (compEnvC scope cl C X.env) fp) tg (lG X.K (tOnly (own.map (·.2))) g))
    (he : ∀ (s : Shared) (H : Hp) (C : Addr) (cl : List (Str × Addr)) (fp : List Addr), PE (X.blk s H scope (compEnvC scope cl C X.env) fp) elt (lN X.K E0 te)) (hr : PSs X rest T) (ge : GY X E fr i T t) (hv0 : 0 ∉ own.map (·.2) := by decide) (hs : ∀ x, foldedSetIterable iter X.env x = pure x := by intro _; rfl) :
    PSs X (.Assign [.Name y py] (.ListComp elt [⟨tg, iter, [], 0⟩] scope pos) spos :: rest) (lS X.K E fr (xRegW i ti g te (own.map (·.2)) t)) := pss_imp (pss_cons (ps_setLc hc hN hy hyl hsw hi ok hg (fun _ _ _ _ _ => xts_nil) he hs) hr) fun C σ H h => regW_of h0 hv0 ge h
end
end G


set_option maxHeartbeats 4000000
namespace G
open PySem PySem.Spec PyProof.Rows L2
section
variable {prog : Program} {w : World} {A : Around} {E : Value → Shared → Prop} {s : Shared}
theorem extend_rev {R : Result → Shared → Prop} {it l : Addr} {items : Array Value} {c₀ : Nat} (hh : A.handled = none) (hit : s.heap.IsRevIter it l ((items.size : Int) - 1)) (hl : s.heap.IsList l items) (hne : l ≠ it) (hn : items.size ≤ sizeLine) (S : Addr) (res : Value)
    (hS : s.heap.get? S = some { cls := .type "list", data := .seq #[] c₀ }) (hSi : S ≠ it) (hSl : S ≠ l)
    (hR : ∀ h' tk acc' c', (∀ b o, b ≠ S → b ≠ it → s.heap.get? b = some o → h'.get? b = some o) → h'.get? S = some { cls := .type "list", dict := none, data := .seq acc' c', slots := #[] } → ItemsOf (fun i v => items[items.size - 1 - i]? = some v) acc' items.size → R (.ok (.ret res)) { s with heap := h', toks := tk }) :
    wpAny (model prog w) A.in1 (Builtin.List.listExtendWith (.ref S) (.ref it) res)
      (fun fin s' => match fin with | .done f => R (.ok f) s' | .again c' => c'.quiet = true ∧ codeAny (model prog w) A c' R s') (fun e s' => R (.error e) s') s := by
  have W := (Walks.listRev (prog := prog) (w := w) (A := A.in1) hh it l hne items).toS
  have hSf : S ∉ [it, l] := by simp only [List.mem_cons, List.not_mem_nil, or_false, not_or]; exact ⟨hSi, hSl⟩
  have hT : s.TypeIs (.ref it) "list_reverseiterator" := Heap.IsRevIter.typeIs (s := s) hit
  have h1 : Builtin.List.listSameRef (.ref S) (.ref it) = false := by simp [Builtin.List.listSameRef, hSi]
  unfold Builtin.List.listExtendWith
  refine wpAny_bind (wpAny_typeOf hT ?_)
  rw [if_neg (by rw [h1]; decide)]
  refine wpAny_bind (wpAny_pyIter_revIter (s := s) hit ?_)
  refine wpAny_bind (wpAny_holding ?_)
  unfold Builtin.List.listLengthHint
  refine wpAny_bind (wpAny_specialOf hT RT.nolen_lri ?_)
  show wpAny _ A.in1 (specialOf (Value.ref it) (Str.ofString "__length_hint__") >>= _) _ _ _
  refine wpAny_bind (wpAny_specialOf hT RT.hint_lri ?_)
  generalize hid : ("list_reverseiterator.__length_hint__" : String) = id0
  wp_delta
  rw [show splitId id0 = some ("list_reverseiterator", "__length_hint__") from by subst hid; decide +kernel]
  subst hid
  refine wpAny_bind (wpAny_isInstance (b := true) hT (by rw [isSubtype_type]; kernel_rfl) ?_)
  refine wpAny_pure ?_
  rw [if_neg (by decide)]
  have e0 : ((items.size : Nat) : Int) - 1 - ((0 : Nat) : Int) = (items.size : Int) - 1 := by omega
  refine wpAny_pure ⟨plainId_quiet F.plain_extend_loop _, codeAny_extend_loopS W hn _ hSf _ items.size 0 _ _ _ rfl (Nat.zero_le _) ⟨Nat.zero_le _, by rw [e0]; exact hit, hl⟩ hS (ItemsOf.nil _) fun s' acc' c' hm hS' hacc => ?_⟩
  rw [Moved.eq_with hm]
  refine hR s'.heap s'.toks acc' c' (fun b o hb hb2 e => hm.heap b o (fun hmem => ?_) e) hS' hacc
  rcases List.mem_cons.mp hmem with e' | hmem
  · exact hb e'
  · exact hb2 (List.mem_singleton.mp hmem)
theorem list_init_rev {R : Result → Shared → Prop} {it l : Addr} {items : Array Value} (hh : A.handled = none) (hit : s.heap.IsRevIter it l ((items.size : Int) - 1)) (hl : s.heap.IsList l items) (hne : l ≠ it) (hn : items.size ≤ sizeLine) (S : Addr)
    (hS : s.heap.get? S = some { cls := .type "list", data := .seq #[] }) (hSi : S ≠ it) (hSl : S ≠ l)
    (hR : ∀ h' tk acc' c', (∀ b o, b ≠ S → b ≠ it → s.heap.get? b = some o → h'.get? b = some o) → h'.get? S = some { cls := .type "list", dict := none, data := .seq acc' c', slots := #[] } → ItemsOf (fun i v => items[items.size - 1 - i]? = some v) acc' items.size → R (.ok (.ret .none)) { s with heap := h', toks := tk }) :
    wpAny (model prog w) A.in1 (Builtin.«list.__init__» ⟨[.ref S, .ref it], []⟩)
      (fun fin s' => match fin with | .done f => R (.ok f) s' | .again c' => c'.quiet = true ∧ codeAny (model prog w) A c' R s') (fun e s' => R (.error e) s') s := by
  show wpAny _ A.in1 (do let old ← Builtin.List.listItems (.ref S); Builtin.List.listUpdate (.ref S) (fun _ => #[]); letGo old.toList.reverse; Builtin.List.listExtendWith (.ref S) (.ref it) .none) _ _ s
  refine wpAny_bind ?_
  unfold Builtin.List.listItems
  refine wpAny_bind (wpAny_seqItems hS rfl (wpAny_pure ?_))
  show wpAny _ A.in1 (updateSeq S (fun _ => #[]) >>= fun _ => letGo (#[] : Array Value).toList.reverse >>= fun _ => Builtin.List.listExtendWith (.ref S) (.ref it) .none) _ _ s
  refine wpAny_bind (wpAny_updateSeq hS rfl ?_)
  have hS₂ := Heap.get?_update_self (Obj.mapSeq (fun _ => (#[] : Array Value))) hS rfl
  have oth : ∀ b o, b ≠ S → s.heap.get? b = some o → (s.heap.update S (Obj.mapSeq (fun _ => (#[] : Array Value)))).get? b = some o :=
    fun b o hb e => (Heap.get?_update_other _ _ (Ne.symm hb)).trans e
  refine wpAny_bind (wpAny_letGo ?_)
  have hl2 : (s.heap.update S (Obj.mapSeq (fun _ => (#[] : Array Value)))).IsList l items := by
    obtain ⟨o, ho, r⟩ := hl
    exact ⟨o, oth l o (Ne.symm hSl) ho, r⟩
  exact extend_rev (s := { s with heap := s.heap.update S (Obj.mapSeq (fun _ => (#[] : Array Value))) }) hh (hit.at fun o e => oth it o (Ne.symm hSi) e) hl2 hne hn S .none hS₂ hSi hSl fun h' tk acc' c' hk hS' hacc => hR h' tk acc' c' (fun b o hb hb2 e => hk b o hb hb2 (oth b o hb e)) hS' hacc
theorem call_list_rev {it l : Addr} {items : Array Value} {Q : Value → Shared → Prop} (hh : A.handled = none) (hit : s.heap.IsRevIter it l ((items.size : Int) - 1)) (hl : s.heap.IsList l items) (hne : l ≠ it) (hn : items.size ≤ sizeLine)
    (hQ : ∀ h' tk acc' c', (∀ b o, b ≠ it → s.heap.get? b = some o → h'.get? b = some o) → h'.get? s.heap.objs.size = some { cls := .type "list", dict := none, data := .seq acc' c', slots := #[] } → ItemsOf (fun i v => items[items.size - 1 - i]? = some v) acc' items.size → Q (.ref s.heap.objs.size) { s with heap := h', toks := tk }) :
    wpAny (model prog w) A (call (.type "list") [.ref it]) Q E s := by
  refine callType_codes (Q₁ := fun obj s₁ => obj = .ref s.heap.objs.size ∧ s₁ = { s with heap := s.heap.push { cls := .type "list", data := .seq #[] } }) F.called_list (F.typeCall_list_1 _) F.entry_list_init
    (code_list_new _ ⟨rfl, rfl⟩) fun obj s₁ h₁ => ?_
  obtain ⟨rfl, rfl⟩ := h₁
  have hS : (s.heap.push { cls := .type "list", data := .seq #[] }).get? s.heap.objs.size = some { cls := .type "list", data := .seq #[] } := Heap.get?_push_size _ rfl
  obtain ⟨oi, hoi, _⟩ := id hit
  obtain ⟨ol, hol, _⟩ := id hl
  have hSi : s.heap.objs.size ≠ it := Nat.ne_of_gt (Heap.lt_size hoi)
  have hSl : s.heap.objs.size ≠ l := Nat.ne_of_gt (Heap.lt_size hol)
  refine ⟨⟨_, hS, rfl⟩, F.args_list_init_2 _ _, list_init_rev (A := A.in1) hh (hit.at fun o e => Heap.get?_push_of_some _ e) (hl.push _) hne hn _ hS hSi hSl fun h' tk acc' c' hk hS' hacc => ?_⟩
  exact ⟨rfl, hQ h' tk acc' c' (fun b o hb e => hk b o (Nat.ne_of_lt (Heap.lt_size e)) hb (Heap.get?_push_of_some _ e)) hS' hacc⟩
end
def tLstRev (K : PySem.W.Frag) (te : TE) : TE := fun σ H Q => te σ H fun v H1 => ∃ (a : Addr) (xs : List V), v = .ref a ∧ SqL K H1 a xs ∧ ∀ q, H1 q = none → Q (.ref q) (upd H1 q (.lst xs.reverse))
section
variable {X : Cx}
theorem pe_lstRev {e : Expr} {te : TE} {p p2 pos pos2 : Pos} (hc : X.calm = true) (hg : Gl X "list") (hm : X.mg "list" = none) (hg2 : Gl X "reversed") (hm2 : X.mg "reversed" = none) (he : PE X e te)
    (hs : starEach [e] X.env = (false, eval e X.env) :: starEach [] X.env := by rfl)
    (hs2 : starEach [.Call (.Name "reversed" p2) [e] [] pos2] X.env = (false, eval (.Call (.Name "reversed" p2) [e] [] pos2) X.env) :: starEach [] X.env := by rfl) :
    PE X (.Call (.Name "list" p) [.Call (.Name "reversed" p2) [e] [] pos2] [] pos) (tLstRev X.K te) := by
  refine ⟨fun pins s σ H Q I h => ?_⟩
  refine Call_ (ld_blt I hg hm boot_list (PyProof.Rows.callWith_type1 (args_cons (Call_ (ld_blt I hg2 hm2 PyProof.Rows.boot_reversed (PyProof.Rows.callWith_type1 (args_cons (thn (he.run pins s σ H _ I h) fun u s1 ⟨v, H1, I1, r1, q1⟩ => args_nil ?_) hs) hs rfl))) hs2) hs2 rfl))
  obtain ⟨a, xs, ev, hq, q⟩ := q1
  subst ev
  obtain rfl : u = Value.ref a := r1
  obtain ⟨its, rv, p', hz⟩ := I1.list hq
  refine call_reversed_list p'.isList (args_nil ?_)
  have k0 : ∀ b o, s1.heap.get? b = some o → (s1.heap.push (revObj a ((its.toArray.size : Int) - 1))).get? b = some o := fun b o e => Heap.get?_push_of_some _ e
  have I2 : Inv X pins σ H1 { s1 with heap := s1.heap.push (revObj a ((its.toArray.size : Int) - 1)) } := I1.kept (t' := s1.toks) k0
  have hl := p'.isList
  obtain ⟨ol, hol, _⟩ := id hl
  have hne : a ≠ s1.heap.objs.size := Nat.ne_of_lt (Heap.lt_size hol)
  have hn : its.toArray.size ≤ sizeLine := by rw [List.size_toArray, ← rv.length]; exact hz
  refine call_list_rev (s := { s1 with heap := s1.heap.push (revObj a ((its.toArray.size : Int) - 1)) }) (I1.ok.hd hc) ⟨_, Heap.get?_push_size _ rfl, rfl, rfl⟩ (hl.push _) hne hn fun h' tk acc c' hk hS' hi => ?_
  refine ⟨.ref (s1.heap.push (revObj a ((its.toArray.size : Int) - 1))).objs.size, upd H1 (s1.heap.push (revObj a ((its.toArray.size : Int) - 1))).objs.size (.lst xs.reverse), I1.laid (t' := tk) (fun c o e => hk c o (Nat.ne_of_lt (Heap.lt_size e)) (k0 c o e)) ?_ (show ObjOk X.prog X.w _ _ _ (.lst xs.reverse) from ⟨by rw [List.length_reverse]; exact hz, acc.toList, c', RT.vals_rev rv hi, ?_⟩), rfl, q _ (I2.hok.fresh (Nat.le_refl _))⟩
  · rw [Heap.size_push]; exact Nat.le_succ _
  · rw [Array.toArray_toList]; exact hS'
def dRevL : D → Option D
  | .lst ds => some (.lst ds.reverse)
  | _ => none
theorem xn_lstRev {E : EW} {e : Expr} {te : XV} {p p2 pos pos2 : Pos} (hc : X.calm = true) (hg : Gl X "list") (hm : X.mg "list" = none) (hg2 : Gl X "reversed") (hm2 : X.mg "reversed" = none) (he : PE X e (lE X.K E te))
    (hs : starEach [e] X.env = (false, eval e X.env) :: starEach [] X.env := by rfl)
    (hs2 : starEach [.Call (.Name "reversed" p2) [e] [] pos2] X.env = (false, eval (.Call (.Name "reversed" p2) [e] [] pos2) X.env) :: starEach [] X.env := by rfl) :
    PE X (.Call (.Name "list" p) [.Call (.Name "reversed" p2) [e] [] pos2] [] pos) (lN X.K E (xOp1 dRevL te)) := pe_imp (pe_lstRev hc hg hm hg2 hm2 he hs hs2) fun σ H Q h => by
  obtain ⟨F, ρ, r, p⟩ := h
  refine ⟨F, ρ, r, (Pend.bind r p).mono fun x ρ1 F1 H1 g1 q v rv => ?_⟩
  obtain ⟨d, e, q⟩ := q.lift
  unfold dRevL at e
  split at e
  rotate_left
  · cases e
  cases e
  cases rv with
  | @lst a xs _ fa ra => exact ⟨a, xs, rfl, SqL.of (g1.rel.ex _ _ fa), fun b hb => (outN_of r g1 q).new g1.rel.ex hb (.lst ra.reverse)⟩
end
theorem zlK (ds : List D) : dRevL (.lst ds) = some (.lst ds.reverse) := rfl
end G


set_option maxHeartbeats 4000000
namespace G
open PySem PySem.Spec PyProof.Rows L2

theorem dInt_bl (b : Bool) : dInt [.bl b] = some (.int (if b = true then 1 else 0)) := rfl
/-- the move by which one picture with cells is another one -/
def moveL (one other : List (Int × Int)) : Option (Int × Int) := match one, other with
  | p :: _, q :: _ => if one.map (sh (q.1 - p.1, q.2 - p.2)) = other then some (q.1 - p.1, q.2 - p.2) else none
  | _, _ => none
end G


set_option maxHeartbeats 4000000
namespace G
open PySem PySem.Spec PyProof.Rows L2

end G


set_option maxHeartbeats 4000000
namespace G
open PySem PySem.Spec PyProof.Rows L2

def intsL (lo : Int) (m : Nat) : List Int := (List.range m).map fun j : Nat => lo + (j : Int)
end G


set_option maxHeartbeats 4000000
namespace G
open PySem PySem.Spec PyProof.Rows L2

/-- turn j is not without cells and no earlier one moved -/
def Quiet (f : Nat → List (Int × Int)) (j : Nat) : Prop := f j ≠ [] ∧ ∀ e, e < j → moveL (f e) (f j) = none
/-- two places and a move -/
structure T3 where
  e : Int
  l : Int
  m : Int × Int
deriving DecidableEq
def t3D (t : T3) : D := .tup [.int t.e, .int t.l, .tup [.int t.m.1, .int t.m.2]]
instance : Enc T3 where
  enc := t3D
  py := fun t => .tuple [.int t.e, .int t.l, .tuple [.int t.m.1, .int t.m.2]]
  dp := 2
  to := fun _ => rfl
  lay := fun _ => rfl
  dep := fun _ => by simp only [PyData.depth, PyData.depthAll]; omega
  eqv := fun v w => by
    cases v; cases w
    simp [PyData.eqv, PyData.eqvAll, Prod.ext_iff]
end G


set_option maxHeartbeats 4000000
namespace G
open PySem PySem.Spec PyProof.Rows L2

end G


set_option maxHeartbeats 4000000
namespace G
open PySem PySem.Spec PyProof.Rows L2

section
variable {k : Int} {bs : List Int} (hq0 : 0 ∉ bs) {ss : List Int} {f : Nat → List (Int × Int)} (hf : ∀ j, f (j + 1) = nextP k bs ss (f j)) {L : Nat} (hq : ∀ j, j < L → Quiet f j)
include hq0 hf
include hq
end
end G


set_option maxHeartbeats 4000000
namespace G
open PySem PySem.Spec PyProof.Rows L2

/-- a rule as data -/
structure R3 where
  k : Int
  bs : List Int
  ss : List Int
deriving DecidableEq
instance : Enc R3 where
  enc := fun r => ruleD r.k r.bs r.ss
  py := fun r => .tuple [.int r.k, .tuple (r.bs.map PyData.int), .tuple (r.ss.map PyData.int)]
  dp := 2
  to := fun r => by
    have h1 := toPys_map (α := Int) r.bs
    have h2 := toPys_map (α := Int) r.ss
    have h1 : toPys (r.bs.map D.int) = some (r.bs.map PyData.int) := h1
    have h2 : toPys (r.ss.map D.int) = some (r.ss.map PyData.int) := h2
    simp only [ruleD, toPy, toPys, h1, h2, Option.map_some]
  lay := fun r => by
    have h1 : PyData.canLayAll0 (r.bs.map PyData.int) = true := lay_map (α := Int) r.bs
    have h2 : PyData.canLayAll0 (r.ss.map PyData.int) = true := lay_map (α := Int) r.ss
    simp only [PyData.canLay0, PyData.canLayAll0, h1, h2, Bool.and_self]
  dep := fun r => by
    have h1 : PyData.depthAll (r.bs.map PyData.int) ≤ 0 := dep_map (α := Int) r.bs
    have h2 : PyData.depthAll (r.ss.map PyData.int) ≤ 0 := dep_map (α := Int) r.ss
    simp only [PyData.depth, PyData.depthAll]
    omega
  eqv := fun p q => by
    cases p with
    | mk k bs ss =>
      cases q with
      | mk k' bs' ss' =>
        have h1 : PyData.eqvAll (bs.map PyData.int) (bs'.map PyData.int) = true ↔ bs = bs' := eqv_map (α := Int) bs bs'
        have h2 : PyData.eqvAll (ss.map PyData.int) (ss'.map PyData.int) = true ↔ ss = ss' := eqv_map (α := Int) ss ss'
        simp only [PyData.eqv, PyData.eqvAll, Bool.and_eq_true, h1, h2, and_true, decide_eq_true_eq, R3.mk.injEq]
        simp
end G


set_option maxHeartbeats 4000000
namespace G
open PySem PySem.Spec PyProof.Rows L2

def glD : Option (Nat × Q4 × (Int × Int)) → D
  | some r => .tup [.int (r.1 : Int), q4 r.2.1, .tup [.int r.2.2.1, .int r.2.2.2]]
  | none => .non
theorem first_some (r : Nat → Option (Nat × Q4 × (Int × Int))) (n : Nat) : first (fun i => (r i).map fun v => glD (some v)) 0 n = ((List.range n).findSome? r).map fun v => glD (some v) := by
  rw [List.range_eq_range']
  suffices ∀ n i, first (fun i => (r i).map fun v => glD (some v)) i n = ((List.range' i n).findSome? r).map fun v => glD (some v) from this n 0
  intro n
  induction n with
  | zero => intro i; rfl
  | succ n ih =>
    intro i
    show ((r i).map fun v => glD (some v)).or (first (fun i => (r i).map fun v => glD (some v)) (i + 1) n) = _
    rw [List.range'_succ, List.findSome?_cons, ih]
    cases r i <;> rfl
end G


set_option maxHeartbeats 4000000
namespace G
open PySem PySem.Spec PyProof.Rows L2

def leads (w h : Nat) (one other : List (Int × Int)) (m : Int × Int) : Bool := one.all fun p => decide (onR w h (sh m p) ∈ other)
section
variable (w h : Nat) (k : Int) (bs ss : List Int) (live : List (Int × Int))
end
section
variable {w h : Nat} {W H : Int} (eW : (w : Int) = W) (eH : (h : Int) = H) (hw : 3 ≤ w ∧ w ≤ 40) (hh : 3 ≤ h ∧ h ≤ 40) {k : Int} (hk : Kind k) (bs ss : List Int) {live : List (Int × Int)} (hl : OnRing w h live)
include eW eH hw hh hk hl
end
end G


set_option maxHeartbeats 4000000
namespace G
open PySem PySem.Spec PyProof.Rows L2

def Stands (w h : Nat) (A : List (Int × Int)) : Prop := ∃ (l t : Int) (a b : Nat), Bx l t a b A ∧ 2 * a ≤ w ∧ a + 2 ≤ w ∧ 2 * b ≤ h ∧ b + 2 ≤ h
section
variable {w h : Nat} (hw : 0 < w) (hh : 0 < h) {k : Int} (hk : Kind k) {bs : List Int} (hq : 0 ∉ bs) (ss : List Int) {live : List (Int × Int)} (hp : Pic live) {T : Nat} (st : ∀ j, j ≤ T → Stands w h (afterP k bs ss live j))
include hw hh hk hq hp st
end
end G


namespace K49
open PySem PySem.Spec PyProof.Rows L2 G

def topS (i : Nat) : Stmt := PySem.Challenge.pw_cellships_k49_papers_of_none.main.body.getD i (.Pass ⟨0, 0, 0, 0⟩)
abbrev s_wall : Stmt := topS 0
theorem sc_wall : FnScope (["k"]) ["k"] (defScope s_wall) := ⟨rfl, rfl, rfl, by decide +kernel, rfl, by decide +kernel, by decide +kernel⟩
abbrev s_is_whole : Stmt := topS 2
theorem sc_is_whole : FnScope (["thing"]) ["thing"] (defScope s_is_whole) := ⟨rfl, rfl, rfl, by decide +kernel, rfl, by decide +kernel, by decide +kernel⟩
abbrev s_is_near : Stmt := topS 8
theorem sc_is_near : FnScope (["kind", "dx", "dy"]) ["kind", "dx", "dy"] (defScope s_is_near) := ⟨rfl, rfl, rfl, by decide +kernel, rfl, by decide +kernel, by decide +kernel⟩
abbrev s_offsets : Stmt := topS 9
theorem sc_offsets : FnScope (["kind", "steps", "dx", "dy", "step"]) ["kind"] (defScope s_offsets) := ⟨rfl, rfl, rfl, by decide +kernel, rfl, by decide +kernel, by decide +kernel⟩
abbrev s_around : Stmt := topS 10
theorem sc_around : FnScope (["$", "found", "dx", "dy"]) [] (defScope s_around) := ⟨rfl, rfl, rfl, by decide +kernel, rfl, by decide +kernel, by decide +kernel⟩
abbrev s_comes : Stmt := topS 12
theorem sc_comes : FnScope (["told", "alive", "count"]) ["told", "alive", "count"] (defScope s_comes) := ⟨rfl, rfl, rfl, by decide +kernel, rfl, by decide +kernel, by decide +kernel⟩
abbrev s_has_column : Stmt := topS 14
theorem sc_has_column : FnScope (["row", "x"]) ["row", "x"] (defScope s_has_column) := ⟨rfl, rfl, rfl, by decide +kernel, rfl, by decide +kernel, by decide +kernel⟩
abbrev s_rows_of : Stmt := topS 15
theorem sc_rows_of : FnScope (["size", "live", "rows", "y", "x"]) ["size", "live"] (defScope s_rows_of) := ⟨rfl, rfl, rfl, by decide +kernel, rfl, by decide +kernel, by decide +kernel⟩
abbrev s_neighbours_in : Stmt := topS 16
theorem sc_neighbours_in : FnScope (["kind", "wide", "looked", "step", "near", "dx", "dy", "found", "row", "x"]) ["kind", "wide", "looked", "step"] (defScope s_neighbours_in) := ⟨rfl, rfl, rfl, by decide +kernel, rfl, by decide +kernel, by decide +kernel⟩
abbrev s_Triples___init : Stmt := inClass (topS 17) 0
theorem sc_Triples___init : FnScope (["self", "told", "wide", "first", "last", "step"]) ["self", "told", "wide", "first", "last"] (defScope s_Triples___init) := ⟨rfl, rfl, rfl, by decide +kernel, rfl, by decide +kernel, by decide +kernel⟩
abbrev s_Triples_many_rows : Stmt := inClass (topS 17) 1
theorem sc_Triples_many_rows : FnScope (["self"]) ["self"] (defScope s_Triples_many_rows) := ⟨rfl, rfl, rfl, by decide +kernel, rfl, by decide +kernel, by decide +kernel⟩
abbrev s_Triples_are_shown : Stmt := inClass (topS 17) 2
theorem sc_Triples_are_shown : FnScope (["self", "one", "two", "three", "due"]) ["self", "one", "two", "three", "due"] (defScope s_Triples_are_shown) := ⟨rfl, rfl, rfl, by decide +kernel, rfl, by decide +kernel, by decide +kernel⟩
abbrev s_Triples_open_counts : Stmt := inClass (topS 17) 3
theorem sc_Triples_open_counts : FnScope (["self", "side", "two", "due", "found", "k", "x", "beside", "goal", "alive", "count"]) ["self", "side", "two", "due"] (defScope s_Triples_open_counts) := ⟨rfl, rfl, rfl, by decide +kernel, rfl, by decide +kernel, by decide +kernel⟩
abbrev s_Triples_fitting : Stmt := inClass (topS 17) 4
theorem sc_Triples_fitting : FnScope (["self", "table", "wanted", "found", "row", "told", "count", "some"]) ["self", "table", "wanted"] (defScope s_Triples_fitting) := ⟨rfl, rfl, rfl, by decide +kernel, rfl, by decide +kernel, by decide +kernel⟩
abbrev s_Triples_above : Stmt := inClass (topS 17) 5
theorem sc_Triples_above : FnScope (["self", "two", "three", "due"]) ["self", "two", "three", "due"] (defScope s_Triples_above) := ⟨rfl, rfl, rfl, by decide +kernel, rfl, by decide +kernel, by decide +kernel⟩
abbrev s_Triples_below : Stmt := inClass (topS 17) 6
theorem sc_Triples_below : FnScope (["self", "one", "two", "due"]) ["self", "one", "two", "due"] (defScope s_Triples_below) := ⟨rfl, rfl, rfl, by decide +kernel, rfl, by decide +kernel, by decide +kernel⟩
abbrev s_ask_father_box : Stmt := topS 22
theorem sc_ask_father_box : FnScope (["size", "live", "x", "y"]) ["size", "live"] (defScope s_ask_father_box) := ⟨rfl, rfl, rfl, by decide +kernel, rfl, by decide +kernel, by decide +kernel⟩
abbrev s_first_layer : Stmt := topS 23
theorem sc_first_layer : FnScope (["triples", "due", "found", "two", "three", "some"]) ["triples", "due"] (defScope s_first_layer) := ⟨rfl, rfl, rfl, by decide +kernel, rfl, by decide +kernel, by decide +kernel⟩
abbrev s_next_layer : Stmt := topS 24
theorem sc_next_layer : FnScope (["triples", "layer", "due", "found", "one", "two", "three"]) ["triples", "layer", "due"] (defScope s_next_layer) := ⟨rfl, rfl, rfl, by decide +kernel, rfl, by decide +kernel, by decide +kernel⟩
abbrev s_rim_rows : Stmt := topS 25
theorem sc_rim_rows : FnScope (["size", "live", "row"]) ["size", "live"] (defScope s_rim_rows) := ⟨rfl, rfl, rfl, by decide +kernel, rfl, by decide +kernel, by decide +kernel⟩
abbrev s_are_all_in : Stmt := topS 26
theorem sc_are_all_in : FnScope (["layer", "some", "known", "pair"]) ["layer", "some"] (defScope s_are_all_in) := ⟨rfl, rfl, rfl, by decide +kernel, rfl, by decide +kernel, by decide +kernel⟩
abbrev s_holds_none : Stmt := topS 27
theorem sc_holds_none : FnScope (["told", "size", "live", "lists", "triples", "rows", "k"]) ["told", "size", "live", "lists"] (defScope s_holds_none) := ⟨rfl, rfl, rfl, by decide +kernel, rfl, by decide +kernel, by decide +kernel⟩
abbrev s_law_pen : Stmt := topS 29
theorem sc_law_pen : FnScope (["_law_script", "_law_k", "_law_cell"]) ["_law_script", "_law_k"] (defScope s_law_pen) := ⟨rfl, rfl, rfl, by decide +kernel, rfl, by decide +kernel, by decide +kernel⟩
abbrev s_law_draw : Stmt := topS 30
theorem sc_law_draw : FnScope (["_law_pen_here", "_law_many", "_law_drawn", "_law_number"]) ["_law_pen_here", "_law_many"] (defScope s_law_draw) := ⟨rfl, rfl, rfl, by decide +kernel, rfl, by decide +kernel, by decide +kernel⟩
abbrev s_law_some : Stmt := topS 31
theorem sc_law_some : FnScope (["_law_pen_here", "_law_kind", "_law_way", "_law_thick", "_law_count"]) ["_law_pen_here", "_law_kind"] (defScope s_law_some) := ⟨rfl, rfl, rfl, by decide +kernel, rfl, by decide +kernel, by decide +kernel⟩
abbrev s_law_rule : Stmt := topS 32
theorem sc_law_rule : FnScope (["_law_pen_here", "_law_kind"]) ["_law_pen_here"] (defScope s_law_rule) := ⟨rfl, rfl, rfl, by decide +kernel, rfl, by decide +kernel, by decide +kernel⟩
abbrev s_law_near : Stmt := topS 33
theorem sc_law_near : FnScope (["_law_kind", "_law_steps"]) ["_law_kind"] (defScope s_law_near) := ⟨rfl, rfl, rfl, by decide +kernel, rfl, by decide +kernel, by decide +kernel⟩
abbrev s_law_table : Stmt := topS 34
theorem sc_law_table : FnScope (["_law_code", "_law_wide", "_law_dy", "_law_steps", "_law_dx", "_law_other", "_law_found", "_law_row", "_law_x"]) ["_law_code", "_law_wide", "_law_dy"] (defScope s_law_table) := ⟨rfl, rfl, rfl, by decide +kernel, rfl, by decide +kernel, by decide +kernel⟩
abbrev s_law_allowed : Stmt := topS 35
theorem sc_law_allowed : FnScope (["_law_code", "_law_tables", "_law_pair", "_law_x", "_law_due", "_law_base", "_law_some_here", "_law_more"]) ["_law_code", "_law_tables", "_law_pair", "_law_x", "_law_due"] (defScope s_law_allowed) := ⟨rfl, rfl, rfl, by decide +kernel, rfl, by decide +kernel, by decide +kernel⟩
abbrev s_law_below : Stmt := topS 36
theorem sc_law_below : FnScope (["_law_code", "_law_tables", "_law_pairs", "_law_due", "_law_many", "_law_found", "_law_one", "_law_two", "_law_allowed_here", "_law_three", "_law_x"]) ["_law_code", "_law_tables", "_law_pairs", "_law_due"] (defScope s_law_below) := ⟨rfl, rfl, rfl, by decide +kernel, rfl, by decide +kernel, by decide +kernel⟩
abbrev s_law_every : Stmt := topS 37
theorem sc_law_every : FnScope (["_law_many", "_law_found", "_law_one", "_law_two"]) ["_law_many"] (defScope s_law_every) := ⟨rfl, rfl, rfl, by decide +kernel, rfl, by decide +kernel, by decide +kernel⟩
abbrev s_law_is_paper : Stmt := topS 38
theorem sc_law_is_paper : FnScope (["_law_code", "_law_size_here", "_law_live", "_law_lists", "_law_tables", "_law_dy", "_law_pairs", "_law_k", "_law_due", "_law_known", "_law_pair", "_law_x"]) ["_law_code", "_law_size_here", "_law_live", "_law_lists"] (defScope s_law_is_paper) := ⟨rfl, rfl, rfl, by decide +kernel, rfl, by decide +kernel, by decide +kernel⟩
abbrev s_law_size : Stmt := topS 39
theorem sc_law_size : FnScope (["_law_pen_here", "_law_at", "_law_way"]) ["_law_pen_here", "_law_at"] (defScope s_law_size) := ⟨rfl, rfl, rfl, by decide +kernel, rfl, by decide +kernel, by decide +kernel⟩
abbrev s_law_picture : Stmt := topS 40
theorem sc_law_picture : FnScope (["_law_pen_here", "_law_size_here", "_law_way", "_law_found", "_law_x", "_law_y"]) ["_law_pen_here", "_law_size_here"] (defScope s_law_picture) := ⟨rfl, rfl, rfl, by decide +kernel, rfl, by decide +kernel, by decide +kernel⟩
abbrev s_law_least : Stmt := topS 41
theorem sc_law_least : FnScope (["_law_code", "_law_size_here", "_law_live", "_law_tables", "_law_dy", "_law_pairs", "_law_lists", "_law_y", "_law_x"]) ["_law_code", "_law_size_here", "_law_live"] (defScope s_law_least) := ⟨rfl, rfl, rfl, by decide +kernel, rfl, by decide +kernel, by decide +kernel⟩
abbrev s_law_bent : Stmt := topS 42
theorem sc_law_bent : FnScope (["_law_pen_here", "_law_lists", "_law_many", "_law_found", "_law_pairs", "_law_at", "_law_way", "_law_odd"]) ["_law_pen_here", "_law_lists", "_law_many"] (defScope s_law_bent) := ⟨rfl, rfl, rfl, by decide +kernel, rfl, by decide +kernel, by decide +kernel⟩
abbrev s_law_bad : Stmt := topS 43
theorem sc_law_bad : FnScope (["_law_pen_here", "_law_some_here"]) ["_law_pen_here"] (defScope s_law_bad) := ⟨rfl, rfl, rfl, by decide +kernel, rfl, by decide +kernel, by decide +kernel⟩
abbrev s_law_refused : Stmt := topS 44
theorem sc_law_refused : FnScope (["_law_code", "_law_size_here", "_law_live", "_law_lists", "_law_found", "e"]) ["_law_code", "_law_size_here", "_law_live", "_law_lists"] (defScope s_law_refused) := ⟨rfl, rfl, rfl, by decide +kernel, rfl, by decide +kernel, by decide +kernel⟩
abbrev s_law : Stmt := topS 45
theorem sc_law : FnScope (["_law_script", "_law_first", "_law_code", "_law_cell", "_law_k", "_law_pen_here", "_law_size_here", "_law_live", "_law_least_here", "_law_again", "_law_lists", "_law_handed", "_law_found", "_law_pairs"]) ["_law_script"] (defScope s_law) := ⟨rfl, rfl, rfl, by decide +kernel, rfl, by decide +kernel, by decide +kernel⟩
/-! _wall -/
noncomputable def b_wall_1 : XS := xNext
noncomputable def b_wall : XS := (xWhile 1000 (xTest (xC (.bl true))) b_wall_1)
noncomputable def f_wall : DF := runP [false] 1 false b_wall
/-! is_whole -/
noncomputable def b_is_whole : XS := (xRet (xAndV (xOpL dIsi (xCons (xVar 0) (xCons (xC (.ty "int")) xNil))) (xNotV (xOpL dIsi (xCons (xVar 0) (xCons (xC (.ty "bool")) xNil))))))
noncomputable def f_is_whole : DF := runP [false] 1 false b_is_whole
/-! is_near -/
noncomputable def b_is_near : XS := (xRet (xOrV (xOp2 dEq (xVar 0) (xC (.int 8))) (xOrV (xOp2 dEq (xVar 1) (xC (.int 0))) (xOrV (xOp2 dEq (xVar 2) (xC (.int 0))) (xAndV (xOp2 dEq (xVar 0) (xC (.int 6))) (xOp2 dEq (xVar 1) (xVar 2)))))))
noncomputable def f_is_near : DF := runP [false, false, false] 3 false b_is_near
/-! around -/
noncomputable def b_around_1 : XS := (xAppend 1 (xOpL dTup (xCons (xVar 2) (xCons (xVar 3) xNil))))
noncomputable def b_around_2 : XS := (xFor (xItR2 (xOp1 dNeg (xC (.int 1))) (xC (.int 2))) (gSet 3) b_around_1)
noncomputable def b_around : XS := (xSeq (xSetO 1 (xOpL dLst xNil))
    (xSeq (xFor (xItR2 (xOp1 dNeg (xC (.int 1))) (xC (.int 2))) (gSet 2) b_around_2)
    (xRet (xTake 1))))
noncomputable def f_around : DF := runP [] 4 true b_around
/-! offsets -/
noncomputable def b_offsets : XS := (xSeq (xSet 1 (xLC (xIt (xCall f_around xNil)) (gsTup 2 (gsCons (gSet 2) (gsCons (gSet 3) gsNil))) (xTest (xCall f_is_near (xCons (xVar 0) (xCons (xVar 2) (xCons (xVar 3) xNil))))) (xOpL dTup (xCons (xVar 2) (xCons (xVar 3) xNil))) [2, 3]))
    (xRet (xLC (xIt (xVar 1)) (gSet 4) (xTest (xOp2 dNe (xVar 4) (xOpL dTup (xCons (xC (.int 0)) (xCons (xC (.int 0)) xNil))))) (xVar 4) [4])))
noncomputable def f_offsets : DF := runP [false] 5 true b_offsets
/-! comes -/
noncomputable def b_comes : XS := (xSeq (xIfS (xTest (xVar 1))
    (xRet (xOp2 dInX (xVar 2) (xOp2 dIx (xVar 0) (xC (.int 2)))))
    xNext)
    (xRet (xOp2 dInX (xVar 2) (xOp2 dIx (xVar 0) (xC (.int 1))))))
noncomputable def f_comes : DF := runP [false, false, false] 3 false b_comes
/-! has_column -/
noncomputable def b_has_column : XS := (xRet (xAndV (xOp2 (dCmp fun i j => decide (j ≤ i)) (xVar 1) (xC (.int 0))) (xOp2 dEq (xOp2 dAnd (xOp2 dShr (xVar 0) (xVar 1)) (xC (.int 1))) (xC (.int 1)))))
noncomputable def f_has_column : DF := runP [false, false] 2 false b_has_column
/-! rows_of -/
noncomputable def b_rows_of_1 : XS := (xSetIx 2 (xVar 3) (xOp2 dAdd (xIxO 2 (xVar 3)) (xOp2 dShl (xC (.int 1)) (xVar 4))))
noncomputable def b_rows_of : XS := (xSeq (xSetO 2 (xLC (xItR1 (xOp2 dIx (xVar 0) (xC (.int 1)))) (gSet 3) xYes (xC (.int 0)) [3]))
    (xSeq (xFor (xItO 1) (gsTup 2 (gsCons (gSet 4) (gsCons (gSet 3) gsNil))) b_rows_of_1)
    (xRet (xTake 2))))
noncomputable def f_rows_of : DF := runP [false, true] 5 true b_rows_of
/-! neighbours_in -/
noncomputable def b_neighbours_in_1 : XS := (xAppend 7 (xLC (xItO 2) (gSet 9) xYes (xOpL dLen (xCons (xLC (xIt (xVar 4)) (gSet 5) (xTest (xCall f_has_column (xCons (xVar 8) (xCons (xOp2 dAdd (xVar 9) (xVar 5)) xNil)))) (xVar 5) [5]) xNil)) [9]))
noncomputable def b_neighbours_in : XS := (xSeq (xSet 4 (xLC (xIt (xCall f_offsets (xCons (xVar 0) xNil))) (gsTup 2 (gsCons (gSet 5) (gsCons (gSet 6) gsNil))) (xTest (xOp2 dEq (xVar 6) (xVar 3))) (xVar 5) [5, 6]))
    (xSeq (xSetO 7 (xOpL dLst xNil))
    (xSeq (xFor (xItR1 (xOp2 dShl (xC (.int 1)) (xVar 1))) (gSet 8) b_neighbours_in_1)
    (xRet (xTake 7)))))
noncomputable def f_neighbours_in : DF := runP [false, false, true, false] 10 true b_neighbours_in
/-! Triples.__init__ -/
noncomputable def b_Triples___init : XS := (xSeq (xSetF "Triples" "by_rule" 0 (xVar 1))
    (xSeq (xSetF "Triples" "looked" 0 (xOp2 dRg2L (xVar 3) (xOp2 dAdd (xVar 4) (xC (.int 1)))))
    (xSetF "Triples" "tables" 0 (xLC (xIt (xOpL dTup (xCons (xOp1 dNeg (xC (.int 1))) (xCons (xC (.int 0)) (xCons (xC (.int 1)) xNil))))) (gSet 5) xYes (xCall f_neighbours_in (xCons (xOp2 dIx (xVar 1) (xC (.int 0))) (xCons (xVar 2) (xConsR (xFldO "Triples" "looked" 0) (xCons (xVar 5) xNil))))) [5]))))
noncomputable def f_Triples___init : DF := runB [false, false, false, false] 6 false b_Triples___init
/-! Triples.many_rows -/
noncomputable def b_Triples_many_rows : XS := (xRet (xOpL dLen (xCons (xOp2 dIx (xOp1 (dFld "Triples" "tables") (xVar 0)) (xC (.int 0))) xNil)))
noncomputable def f_Triples_many_rows : DF := runP [false] 1 false b_Triples_many_rows
/-! Triples.are_shown -/
noncomputable def b_Triples_are_shown : XS := (xDrop (xCall f_wall (xCons (xC (.int 0)) xNil)))
noncomputable def f_Triples_are_shown : DF := runP [false, false, false, false, false] 5 false b_Triples_are_shown
/-! Triples.open_counts -/
noncomputable def b_Triples_open_counts_1 : XS := (xSeq (xSet 7 (xOp2 dAdd (xOp2 dIx (xVar 1) (xVar 5)) (xOp2 dIx (xOp2 dIx (xOp2 dIx (xOp1 (dFld "Triples" "tables") (xVar 0)) (xC (.int 1))) (xVar 2)) (xVar 5))))
    (xSeq (xSet 8 (xCall f_has_column (xCons (xVar 3) (xCons (xVar 6) xNil))))
    (xSeq (xSet 9 (xCall f_has_column (xCons (xVar 2) (xCons (xVar 6) xNil))))
    (xAppend 4 (xLC (xItR1 (xC (.int 4))) (gSet 10) (xTest (xOp2 dEq (xCall f_comes (xCons (xOp1 (dFld "Triples" "by_rule") (xVar 0)) (xCons (xVar 9) (xCons (xOp2 dAdd (xVar 7) (xVar 10)) xNil)))) (xVar 8))) (xVar 10) [10])))))
noncomputable def b_Triples_open_counts : XS := (xSeq (xSetO 4 (xOpL dLst xNil))
    (xSeq (xFor (xItE (xOp1 (dFld "Triples" "looked") (xVar 0))) (gsTup 2 (gsCons (gSet 5) (gsCons (gSet 6) gsNil))) b_Triples_open_counts_1)
    (xRet (xTake 4))))
noncomputable def f_Triples_open_counts : DF := runP [false, false, false, false] 11 true b_Triples_open_counts
/-! Triples.fitting -/
noncomputable def b_Triples_fitting_1 : XS := (xIfS (xTest (xOpL dAll (xCons (xLC (xItZ (xVar 5) (xVar 2)) (gsTup 2 (gsCons (gSet 6) (gsCons (gSet 7) gsNil))) xYes (xOp2 dInX (xVar 6) (xVar 7)) [6, 7]) xNil)))
    (xAppend 3 (xVar 4))
    xNext)
noncomputable def b_Triples_fitting : XS := (xSeq (xIfS (xTest (xOp2 dInX (xOpL dLst xNil) (xVar 2)))
    (xRet (xOpL dLst xNil))
    xNext)
    (xSeq (xSetO 3 (xOpL dLst xNil))
    (xSeq (xFor (xItE (xVar 1)) (gsTup 2 (gsCons (gSet 4) (gsCons (gSet 5) gsNil))) b_Triples_fitting_1)
    (xRet (xTake 3)))))
noncomputable def f_Triples_fitting : DF := runP [false, false, false] 8 true b_Triples_fitting
/-! Triples.above -/
noncomputable def b_Triples_above : XS := (xRet (xMeth "Triples" "fitting" f_Triples_fitting (xVar 0) (xCons (xOp2 dIx (xOp1 (dFld "Triples" "tables") (xVar 0)) (xC (.int 0))) (xCons (xMeth "Triples" "open_counts" f_Triples_open_counts (xVar 0) (xCons (xOp2 dIx (xOp2 dIx (xOp1 (dFld "Triples" "tables") (xVar 0)) (xC (.int 2))) (xVar 2)) (xCons (xVar 1) (xCons (xVar 3) xNil)))) xNil))))
noncomputable def f_Triples_above : DF := runP [false, false, false, false] 4 true b_Triples_above
/-! Triples.below -/
noncomputable def b_Triples_below : XS := (xRet (xMeth "Triples" "fitting" f_Triples_fitting (xVar 0) (xCons (xOp2 dIx (xOp1 (dFld "Triples" "tables") (xVar 0)) (xC (.int 2))) (xCons (xMeth "Triples" "open_counts" f_Triples_open_counts (xVar 0) (xCons (xOp2 dIx (xOp2 dIx (xOp1 (dFld "Triples" "tables") (xVar 0)) (xC (.int 0))) (xVar 1)) (xCons (xVar 2) (xCons (xVar 3) xNil)))) xNil))))
noncomputable def f_Triples_below : DF := runP [false, false, false, false] 4 true b_Triples_below
/-! ask_father_box -/
noncomputable def b_ask_father_box_1 : XS := (xIfS (xOr (xTest (xOp2 dLt (xVar 2) (xC (.int 0)))) (xOr (xTest (xOp2 (dCmp fun i j => decide (j ≤ i)) (xVar 2) (xOp2 dIx (xVar 0) (xC (.int 0))))) (xOr (xTest (xOp2 dLt (xVar 3) (xC (.int 0)))) (xTest (xOp2 (dCmp fun i j => decide (j ≤ i)) (xVar 3) (xOp2 dIx (xVar 0) (xC (.int 1))))))))
    (xRaise "Outside")
    xNext)
noncomputable def b_ask_father_box : XS := (xSeq (xIfS (xOr (xNot (xTest (xOpL dIsi (xCons (xVar 0) (xCons (xC (.ty "tuple")) xNil))))) (xOr (xTest (xOp2 dNe (xOpL dLen (xCons (xVar 0) xNil)) (xC (.int 2)))) (xOr (xNot (xTest (xCall f_is_whole (xCons (xOp2 dIx (xVar 0) (xC (.int 0))) xNil)))) (xNot (xTest (xCall f_is_whole (xCons (xOp2 dIx (xVar 0) (xC (.int 1))) xNil)))))))
    (xRaise "NoSize")
    xNext)
    (xSeq (xIfS (xOr (xTest (xOp2 dLt (xOp2 dIx (xVar 0) (xC (.int 0))) (xC (.int 1)))) (xOr (xTest (xOp2 (dCmp fun i j => decide (j < i)) (xOp2 dIx (xVar 0) (xC (.int 0))) (xC (.int 3)))) (xOr (xTest (xOp2 dLt (xOp2 dIx (xVar 0) (xC (.int 1))) (xC (.int 1)))) (xTest (xOp2 (dCmp fun i j => decide (j < i)) (xOp2 dIx (xVar 0) (xC (.int 1))) (xC (.int 6)))))))
    (xRaise "NoSize")
    xNext)
    (xSeq (xIfS (xTest (xOp2 (dCmp fun i j => decide (j < i)) (xOp2 dMul (xOp2 dIx (xVar 0) (xC (.int 0))) (xOp2 dIx (xVar 0) (xC (.int 1)))) (xC (.int 9))))
    (xRaise "NoSize")
    xNext)
    (xFor (xItO 1) (gsTup 2 (gsCons (gSet 2) (gsCons (gSet 3) gsNil))) b_ask_father_box_1))))
noncomputable def f_ask_father_box : DF := runP [false, true] 4 false b_ask_father_box
/-! first_layer -/
noncomputable def b_first_layer_1 : XS := (xSeq (xSet 5 (xMeth "Triples" "above" f_Triples_above (xVar 0) (xCons (xVar 3) (xCons (xVar 4) (xCons (xVar 1) xNil)))))
    (xIfS (xTest (xOp2 dNe (xVar 5) (xOpL dLst xNil)))
    (xDPut 2 (xOpL dTup (xCons (xVar 3) (xCons (xVar 4) xNil))) (xOp2 dIx (xVar 5) (xC (.int 0))))
    xNext))
noncomputable def b_first_layer_2 : XS := (xFor (xItR1 (xMeth "Triples" "many_rows" f_Triples_many_rows (xVar 0) xNil)) (gSet 4) b_first_layer_1)
noncomputable def b_first_layer : XS := (xSeq (xSetO 2 (xC (.dicT false [])))
    (xSeq (xFor (xItR1 (xMeth "Triples" "many_rows" f_Triples_many_rows (xVar 0) xNil)) (gSet 3) b_first_layer_2)
    (frzS 2 (xRet (xTake 2)))))
noncomputable def f_first_layer : DF := runP [false, false] 6 true b_first_layer
/-! next_layer -/
noncomputable def b_next_layer_1 : XS := (xDPut 3 (xOpL dTup (xCons (xVar 5) (xCons (xVar 6) xNil))) (xVar 4))
noncomputable def b_next_layer_2 : XS := (xIfS (xAnd (xTest (xChain (dCmp fun i j => decide (i ≤ j)) dLt (xC (.int 0)) (xVar 4) (xMeth "Triples" "many_rows" f_Triples_many_rows (xVar 0) xNil))) (xTest (xChain (dCmp fun i j => decide (i ≤ j)) dLt (xC (.int 0)) (xVar 5) (xMeth "Triples" "many_rows" f_Triples_many_rows (xVar 0) xNil))))
    (xFor (xIt (xMeth "Triples" "below" f_Triples_below (xVar 0) (xCons (xVar 4) (xCons (xVar 5) (xCons (xVar 2) xNil))))) (gSet 6) b_next_layer_1)
    xNext)
noncomputable def b_next_layer : XS := (xSeq (xSetO 3 (xC (.dicT false [])))
    (xSeq (xFor (xItA 1) (gsTup 2 (gsCons (gSet 4) (gsCons (gSet 5) gsNil))) b_next_layer_2)
    (frzS 3 (xRet (xTake 3)))))
noncomputable def f_next_layer : DF := runP [false, true, false] 7 true b_next_layer
/-! rim_rows -/
noncomputable def b_rim_rows : XS := (xRet (xLC (xIt (xCall f_rows_of (xCons (xVar 0) (xConsO 1 xNil)))) (gSet 2) xYes (xOp2 dMul (xC (.int 2)) (xVar 2)) [2]))
noncomputable def f_rim_rows : DF := runP [false, true] 3 true b_rim_rows
/-! are_all_in -/
noncomputable def b_are_all_in_1 : XS := (xDPut 2 (xVar 3) (xC (.bl true)))
noncomputable def b_are_all_in : XS := (xSeq (xSetO 2 (xC (.dicT false [])))
    (xSeq (xFor (xItO 1) (gSet 3) b_are_all_in_1)
    (xRet (xOpL dAll (xCons (xLC (xItK 0) (gSet 3) xYes (xCmpO dInX (xVar 3) 2) [3]) xNil)))))
noncomputable def f_are_all_in : DF := runP [true, true] 4 false b_are_all_in
/-! holds_none -/
noncomputable def b_holds_none_1 : XS := (xIfS (xNot (xTest (xCall f_are_all_in (xConsR (xCall f_next_layer (xCons (xVar 4) (xConsR (xOp2 dIx (xVar 3) (xOp2 dSub (xVar 6) (xC (.int 1)))) (xCons (xOp2 dIx (xVar 5) (xVar 6)) xNil)))) (xConsR (xOp2 dIx (xVar 3) (xVar 6)) xNil)))))
    (xRet (xC (.bl false)))
    xNext)
noncomputable def b_holds_none : XS := (xSeq (xDrop (xCall f_ask_father_box (xCons (xVar 1) (xConsO 2 xNil))))
    (xSeq (xIfS (xOr (xTest (xOp2 dNe (xOpL dLen (xCons (xVar 3) xNil)) (xOp2 dIx (xVar 1) (xC (.int 1))))) (xTest (xOp2 dNe (xOp2 dIx (xVar 3) (xOp1 dNeg (xC (.int 1)))) (xOpL dLst xNil))))
    (xRet (xC (.bl false)))
    xNext)
    (xSeq (xSet 4 (xMake "Triples" f_Triples___init (xCons (xVar 0) (xCons (xOp2 dAdd (xOp2 dIx (xVar 1) (xC (.int 0))) (xC (.int 2))) (xCons (xC (.int 1)) (xCons (xOp2 dIx (xVar 1) (xC (.int 0))) xNil))))))
    (xSeq (xSet 5 (xCall f_rim_rows (xCons (xVar 1) (xConsO 2 xNil))))
    (xSeq (xIfS (xNot (xTest (xCall f_are_all_in (xConsR (xCall f_first_layer (xCons (xVar 4) (xCons (xOp2 dIx (xVar 5) (xC (.int 0))) xNil))) (xConsR (xOp2 dIx (xVar 3) (xC (.int 0))) xNil)))))
    (xRet (xC (.bl false)))
    xNext)
    (xSeq (xFor (xItR2 (xC (.int 1)) (xOp2 dIx (xVar 1) (xC (.int 1)))) (gSet 6) b_holds_none_1)
    (xRet (xC (.bl true)))))))))
noncomputable def f_holds_none : DF := runP [false, false, true, false] 7 false b_holds_none
/-! _law_pen -/
noncomputable def b_law_pen : XS := (xSeq (xSet 2 (xOp2 dAdd (xOp2 dMul (xC (.int 7919)) (xVar 1)) (xC (.int 5))))
    (xSeq (xIfS (xTest (xOp2 dLt (xVar 1) (xOpL dLen (xCons (xVar 0) xNil))))
    (xSet 2 (xOp2 dIx (xVar 0) (xVar 1)))
    (xIfS (xTest (xOp2 (dCmp fun i j => decide (j < i)) (xOpL dLen (xCons (xVar 0) xNil)) (xC (.int 0))))
    (xSet 2 (xOp2 dAdd (xOp2 dMod (xOp2 dIx (xVar 0) (xOp2 dMod (xVar 1) (xOpL dLen (xCons (xVar 0) xNil)))) (xC (.int 2147483629))) (xOp2 dMul (xC (.int 48271)) (xVar 1))))
    xNext))
    (xSeq (xIfS (xTest (xOp2 (dCmp fun i j => decide (j ≤ i)) (xVar 2) (xOp2 dPow (xC (.int 10)) (xC (.int 18)))))
    (xRet (xOpL dLst (xCons (xOp2 dSub (xVar 2) (xOp2 dPow (xC (.int 10)) (xC (.int 18)))) (xCons (xOp2 dMod (xVar 2) (xC (.int 2147483587))) (xCons (xC (.int 0)) xNil)))))
    xNext)
    (xRet (xOpL dLst (xCons (xC (.int 0)) (xCons (xOp2 dMod (xVar 2) (xC (.int 2147483587))) (xCons (xC (.int 0)) xNil))))))))
noncomputable def f_law_pen : DF := runP [false, false] 3 true b_law_pen
/-! _law_draw -/
noncomputable def b_law_draw : XS := (xSeq (xSetIx 0 (xC (.int 2)) (xOp2 dAdd (xIxO 0 (xC (.int 2))) (xC (.int 1))))
    (xSeq (xIfS (xTest (xOp2 (dCmp fun i j => decide (j < i)) (xIxO 0 (xC (.int 0))) (xC (.int 0))))
    (xSeq (xSet 2 (xOp2 dMod (xIxO 0 (xC (.int 0))) (xVar 1)))
    (xSeq (xSetIx 0 (xC (.int 0)) (xOp2 dDiv (xIxO 0 (xC (.int 0))) (xVar 1)))
    (xRet (xVar 2))))
    xNext)
    (xSeq (xSet 3 (xOp2 dMod (xOp2 dAdd (xOp2 dAdd (xIxO 0 (xC (.int 1))) (xOp2 dMul (xC (.int 48271)) (xIxO 0 (xC (.int 2))))) (xC (.int 11))) (xC (.int 2147483629))))
    (xSeq (xSet 3 (xOp2 dAdd (xOp2 dMod (xOp2 dMul (xVar 3) (xVar 3)) (xC (.int 2147483587))) (xOp2 dMul (xC (.int 7919)) (xIxO 0 (xC (.int 2))))))
    (xSeq (xSet 3 (xOp2 dMod (xOp2 dMul (xVar 3) (xVar 3)) (xC (.int 2147483629))))
    (xRet (xOp2 dMod (xOp2 dDiv (xVar 3) (xC (.int 64))) (xVar 1))))))))
noncomputable def f_law_draw : DF := runB [false] 4 false b_law_draw
/-! _law_some -/
noncomputable def b_law_some : XS := (xSeq (xSet 2 (xCallB f_law_draw 0 (xCons (xC (.int 4)) xNil)))
    (xSeq (xIfS (xTest (xOp2 dEq (xVar 2) (xC (.int 0))))
    (xRet (xOpL dTup xNil))
    xNext)
    (xSeq (xIfS (xTest (xOp2 dEq (xVar 2) (xC (.int 1))))
    (xRet (xOpL dTup (xCons (xOp2 dIx (xOpL dLst (xCons (xVar 1) (xCons (xC (.int 0)) (xCons (xCallB f_law_draw 0 (xCons (xOp2 dAdd (xVar 1) (xC (.int 1))) xNil)) xNil)))) (xCallB f_law_draw 0 (xCons (xC (.int 3)) xNil))) xNil)))
    xNext)
    (xSeq (xSet 3 (xVar 2))
    (xRet (xOpL dTuple (xCons (xLC (xItR1 (xOp2 dAdd (xVar 1) (xC (.int 1)))) (gSet 4) (xTest (xOp2 dEq (xCallB f_law_draw 0 (xCons (xVar 3) xNil)) (xC (.int 0)))) (xVar 4) [4]) xNil)))))))
noncomputable def f_law_some : DF := runB [false] 5 false b_law_some
/-! _law_rule -/
noncomputable def b_law_rule : XS := (xSeq (xSet 1 (xOp2 dIx (xOpL dLst (xCons (xC (.int 8)) (xCons (xC (.int 6)) (xCons (xC (.int 4)) xNil)))) (xCallB f_law_draw 0 (xCons (xC (.int 3)) xNil))))
    (xRet (xOpL dTup (xCons (xVar 1) (xCons (xCallB f_law_some 0 (xCons (xVar 1) xNil)) (xCons (xCallB f_law_some 0 (xCons (xVar 1) xNil)) xNil))))))
noncomputable def f_law_rule : DF := runB [] 2 false b_law_rule
/-! _law_near -/
noncomputable def b_law_near : XS := (xSeq (xSet 1 (xOpL dLst (xCons (xOpL dTup (xCons (xOp1 dNeg (xC (.int 1))) (xCons (xC (.int 0)) xNil))) (xCons (xOpL dTup (xCons (xC (.int 0)) (xCons (xOp1 dNeg (xC (.int 1))) xNil))) (xCons (xOpL dTup (xCons (xC (.int 0)) (xCons (xC (.int 1)) xNil))) (xCons (xOpL dTup (xCons (xC (.int 1)) (xCons (xC (.int 0)) xNil))) xNil))))))
    (xSeq (xIfS (xTest (xOp2 (dCmp fun i j => decide (j < i)) (xVar 0) (xC (.int 4))))
    (xSet 1 (xOp2 dAdd (xVar 1) (xOpL dLst (xCons (xOpL dTup (xCons (xOp1 dNeg (xC (.int 1))) (xCons (xOp1 dNeg (xC (.int 1))) xNil))) (xCons (xOpL dTup (xCons (xC (.int 1)) (xCons (xC (.int 1)) xNil))) xNil)))))
    xNext)
    (xSeq (xIfS (xTest (xOp2 (dCmp fun i j => decide (j < i)) (xVar 0) (xC (.int 6))))
    (xSet 1 (xOp2 dAdd (xVar 1) (xOpL dLst (xCons (xOpL dTup (xCons (xOp1 dNeg (xC (.int 1))) (xCons (xC (.int 1)) xNil))) (xCons (xOpL dTup (xCons (xC (.int 1)) (xCons (xOp1 dNeg (xC (.int 1))) xNil))) xNil)))))
    xNext)
    (xRet (xVar 1)))))
noncomputable def f_law_near : DF := runP [false] 2 false b_law_near
/-! _law_table -/
noncomputable def b_law_table_1 : XS := (xAppend 6 (xLC (xItR1 (xVar 1)) (gSet 8) xYes (xOpL dLen (xCons (xLC (xIt (xVar 3)) (gSet 4) (xTest (xOp2 dEq (xOp2 dAnd (xOp2 dShr (xVar 7) (xOp2 dAdd (xOp2 dAdd (xVar 8) (xC (.int 1))) (xVar 4))) (xC (.int 1))) (xC (.int 1)))) (xVar 4) [4]) xNil)) [8]))
noncomputable def b_law_table : XS := (xSeq (xSet 3 (xLC (xIt (xCall f_law_near (xCons (xOp2 dIx (xVar 0) (xC (.int 0))) xNil))) (gsTup 2 (gsCons (gSet 4) (gsCons (gSet 5) gsNil))) (xTest (xOp2 dEq (xVar 5) (xVar 2))) (xVar 4) [4, 5]))
    (xSeq (xSetO 6 (xOpL dLst xNil))
    (xSeq (xFor (xItR1 (xOp2 dShl (xC (.int 1)) (xOp2 dAdd (xVar 1) (xC (.int 2))))) (gSet 7) b_law_table_1)
    (xRet (xTake 6)))))
noncomputable def f_law_table : DF := runP [false, false, false] 9 true b_law_table
/-! _law_allowed -/
noncomputable def b_law_allowed : XS := (xSeq (xSet 5 (xOp2 dAdd (xOp2 dIx (xOp2 dIx (xOp2 dIx (xVar 1) (xC (.int 0))) (xOp2 dIx (xVar 2) (xC (.int 0)))) (xVar 3)) (xOp2 dIx (xOp2 dIx (xOp2 dIx (xVar 1) (xC (.int 1))) (xOp2 dIx (xVar 2) (xC (.int 1)))) (xVar 3))))
    (xSeq (xSet 6 (xOp2 dIx (xVar 0) (xC (.int 1))))
    (xSeq (xIfS (xTest (xOp2 dEq (xOp2 dAnd (xOp2 dShr (xOp2 dIx (xVar 2) (xC (.int 1))) (xOp2 dAdd (xVar 3) (xC (.int 1)))) (xC (.int 1))) (xC (.int 1))))
    (xSet 6 (xOp2 dIx (xVar 0) (xC (.int 2))))
    xNext)
    (xRet (xLC (xItR1 (xC (.int 4))) (gSet 7) (xTest (xOp2 dEq (xOp2 dInX (xOp2 dAdd (xVar 5) (xVar 7)) (xVar 6)) (xVar 4))) (xVar 7) [7])))))
noncomputable def f_law_allowed : DF := runP [false, false, false, false, false] 8 true b_law_allowed
/-! _law_below -/
noncomputable def b_law_below_1 : XS := (xIfS (xTest (xOpL dAll (xCons (xLC (xItR1 (xOpL dLen (xCons (xVar 3) xNil))) (gSet 10) xYes (xOp2 dInX (xOp2 dIx (xOp2 dIx (xOp2 dIx (xVar 1) (xC (.int 2))) (xVar 9)) (xVar 10)) (xOp2 dIx (xVar 8) (xVar 10))) [10]) xNil)))
    (xDPut 5 (xOpL dTup (xCons (xVar 7) (xCons (xVar 9) xNil))) (xC (.bl true)))
    xNext)
noncomputable def b_law_below_2 : XS := (xSeq (xSet 8 (xOpL dLst (xCons (xOpL dLst xNil) xNil)))
    (xSeq (xIfS (xAnd (xTest (xChain (dCmp fun i j => decide (i ≤ j)) dLt (xC (.int 0)) (xVar 6) (xVar 4))) (xTest (xChain (dCmp fun i j => decide (i ≤ j)) dLt (xC (.int 0)) (xVar 7) (xVar 4))))
    (xSet 8 (xLC (xItR1 (xOpL dLen (xCons (xVar 3) xNil))) (gSet 10) xYes (xCall f_law_allowed (xCons (xVar 0) (xCons (xVar 1) (xCons (xOpL dTup (xCons (xVar 6) (xCons (xVar 7) xNil))) (xCons (xVar 10) (xCons (xOp2 dIx (xVar 3) (xVar 10)) xNil)))))) [10]))
    xNext)
    (xIfS (xTest (xOp2 dNotInX (xOpL dLst xNil) (xVar 8)))
    (xFor (xItR1 (xVar 4)) (gSet 9) b_law_below_1)
    xNext)))
noncomputable def b_law_below : XS := (xSeq (xSet 4 (xOpL dLen (xCons (xOp2 dIx (xVar 1) (xC (.int 0))) xNil)))
    (xSeq (xSetO 5 (xC (.dicT false [])))
    (xSeq (xFor (xIt (xVar 2)) (gsTup 2 (gsCons (gSet 6) (gsCons (gSet 7) gsNil))) b_law_below_2)
    (xRet (xKeysD 5)))))
noncomputable def f_law_below : DF := runP [false, false, false, false] 11 true b_law_below
/-! _law_every -/
noncomputable def b_law_every_1 : XS := (xExtend 1 (xLC (xItR1 (xVar 0)) (gSet 3) xYes (xOpL dTup (xCons (xVar 2) (xCons (xVar 3) xNil))) [3]))
noncomputable def b_law_every : XS := (xSeq (xSetO 1 (xOpL dLst xNil))
    (xSeq (xFor (xItR1 (xVar 0)) (gSet 2) b_law_every_1)
    (xRet (xTake 1))))
noncomputable def f_law_every : DF := runP [false] 4 true b_law_every
/-! _law_is_paper -/
noncomputable def b_law_is_paper_1 : XS := (xDPut 9 (xVar 10) (xC (.bl true)))
noncomputable def b_law_is_paper_2 : XS := (xIfS (xTest (xCmpO dNotInX (xVar 10) 9))
    (xRet (xC (.bl false)))
    xNext)
noncomputable def b_law_is_paper_3 : XS := (xSeq (xSet 8 (xLC (xItR1 (xOp2 dIx (xVar 1) (xC (.int 0)))) (gSet 11) xYes (xOp2 dInX (xOpL dTup (xCons (xVar 11) (xCons (xVar 7) xNil))) (xVar 2)) [11]))
    (xSeq (xSetO 9 (xC (.dicT false [])))
    (xSeq (xFor (xIt (xOp2 dIx (xVar 3) (xVar 7))) (gSet 10) b_law_is_paper_1)
    (xSeq (xFor (xIt (xCall f_law_below (xCons (xVar 0) (xCons (xVar 4) (xCons (xVar 6) (xCons (xVar 8) xNil)))))) (gSet 10) b_law_is_paper_2)
    (xSet 6 (xOp2 dIx (xVar 3) (xVar 7)))))))
noncomputable def b_law_is_paper : XS := (xSeq (xIfS (xOr (xTest (xOp2 dNe (xOpL dLen (xCons (xVar 3) xNil)) (xOp2 dIx (xVar 1) (xC (.int 1))))) (xTest (xOp2 dNe (xOp2 dIx (xVar 3) (xOp1 dNeg (xC (.int 1)))) (xOpL dLst xNil))))
    (xRet (xC (.bl false)))
    xNext)
    (xSeq (xSet 4 (xLC (xItR2 (xOp1 dNeg (xC (.int 1))) (xC (.int 2))) (gSet 5) xYes (xCall f_law_table (xCons (xVar 0) (xCons (xOp2 dIx (xVar 1) (xC (.int 0))) (xCons (xVar 5) xNil)))) [5]))
    (xSeq (xSet 6 (xCall f_law_every (xCons (xOpL dLen (xCons (xOp2 dIx (xVar 4) (xC (.int 0))) xNil)) xNil)))
    (xSeq (xFor (xItR1 (xOp2 dIx (xVar 1) (xC (.int 1)))) (gSet 7) b_law_is_paper_3)
    (xRet (xC (.bl true)))))))
noncomputable def f_law_is_paper : DF := runP [false, false, false, false] 12 false b_law_is_paper
/-! _law_size -/
noncomputable def b_law_size : XS := (xSeq (xSet 2 (xCallB f_law_draw 0 (xCons (xC (.int 40)) xNil)))
    (xSeq (xIfS (xAnd (xTest (xOp2 dEq (xVar 2) (xC (.int 39)))) (xTest (xOp2 dEq (xVar 1) (xC (.int 1)))))
    (xRet (xOpL dTup (xCons (xC (.int 3)) (xCons (xOp2 dAdd (xC (.int 1)) (xOp2 dDiv (xCallB f_law_draw 0 (xCons (xC (.int 4)) xNil)) (xC (.int 3)))) xNil))))
    xNext)
    (xSeq (xIfS (xTest (xOp2 dLt (xVar 2) (xC (.int 5))))
    (xRet (xOpL dTup (xCons (xC (.int 2)) (xCons (xOp2 dAdd (xC (.int 1)) (xCallB f_law_draw 0 (xCons (xOp2 dIx (xOpL dLst (xCons (xC (.int 4)) (xCons (xC (.int 2)) xNil))) (xOpL dInt (xCons (xOp2 (dCmp fun i j => decide (j < i)) (xVar 1) (xC (.int 1))) xNil))) xNil))) xNil))))
    xNext)
    (xRet (xOpL dTup (xCons (xC (.int 1)) (xCons (xOp2 dAdd (xC (.int 1)) (xCallB f_law_draw 0 (xCons (xOp2 dIx (xOpL dLst (xCons (xC (.int 3)) (xCons (xC (.int 6)) xNil))) (xCallB f_law_draw 0 (xCons (xC (.int 2)) xNil))) xNil))) xNil)))))))
noncomputable def f_law_size : DF := runB [false] 3 false b_law_size
/-! _law_picture -/
noncomputable def b_law_picture_1 : XS := (xIfS (xOr (xTest (xOp2 dEq (xVar 2) (xC (.int 1)))) (xAnd (xTest (xOp2 (dCmp fun i j => decide (j < i)) (xVar 2) (xC (.int 1)))) (xTest (xOp2 dEq (xCallB f_law_draw 0 (xCons (xC (.int 2)) xNil)) (xC (.int 1))))))
    (xAppend 3 (xOpL dTup (xCons (xVar 4) (xCons (xVar 5) xNil))))
    xNext)
noncomputable def b_law_picture_2 : XS := (xFor (xItR1 (xOp2 dIx (xVar 1) (xC (.int 1)))) (gSet 5) b_law_picture_1)
noncomputable def b_law_picture : XS := (xSeq (xSet 2 (xCallB f_law_draw 0 (xCons (xC (.int 4)) xNil)))
    (xSeq (xSetO 3 (xOpL dLst xNil))
    (xSeq (xFor (xItR1 (xOp2 dIx (xVar 1) (xC (.int 0)))) (gSet 4) b_law_picture_2)
    (xRet (xTake 3)))))
noncomputable def f_law_picture : DF := runB [false] 6 true b_law_picture
/-! _law_least -/
noncomputable def b_law_least_1 : XS := (xSeq (xSet 5 (xCall f_law_below (xCons (xVar 0) (xCons (xVar 3) (xCons (xVar 5) (xCons (xLC (xItR1 (xOp2 dIx (xVar 1) (xC (.int 0)))) (gSet 8) xYes (xOp2 dInX (xOpL dTup (xCons (xVar 8) (xCons (xVar 7) xNil))) (xVar 2)) [8]) xNil))))))
    (xAppend 6 (xOpL dList (xCons (xVar 5) xNil))))
noncomputable def b_law_least : XS := (xSeq (xSet 3 (xLC (xItR2 (xOp1 dNeg (xC (.int 1))) (xC (.int 2))) (gSet 4) xYes (xCall f_law_table (xCons (xVar 0) (xCons (xOp2 dIx (xVar 1) (xC (.int 0))) (xCons (xVar 4) xNil)))) [4]))
    (xSeq (xSet 5 (xCall f_law_every (xCons (xOpL dLen (xCons (xOp2 dIx (xVar 3) (xC (.int 0))) xNil)) xNil)))
    (xSeq (xSetO 6 (xOpL dLst xNil))
    (xSeq (xFor (xItR1 (xOp2 dIx (xVar 1) (xC (.int 1)))) (gSet 7) b_law_least_1)
    (xRet (xTake 6))))))
noncomputable def f_law_least : DF := runP [false, false, false] 9 true b_law_least
/-! _law_bent -/
noncomputable def b_law_bent_1 : List D → XS := (gYIf 3 (gcAnd 3 (gvOld (xTest (xOp2 dEq (xVar 6) (xC (.int 1))))) (gcNe 3 (xVar 5)))
    (gThen (gWPop 3 (xVar 5) (gvCall f_law_draw 3 (gvLenAt 3 (xVar 5))))
    (gEnd 3 false xNext))
    (gYIf 3 (gvOld (xTest (xOp2 dEq (xVar 6) (xC (.int 2)))))
    (gThen (gWIns 3 (xVar 5) (gvCall f_law_draw 3 (gvOp 3 dAdd (gvLenAt 3 (xVar 5)) (xC (.int 1)))) (xOpL dTup (xCons (xCallB f_law_draw 0 (xCons (xVar 2) xNil)) (xCons (xCallB f_law_draw 0 (xCons (xVar 2) xNil)) xNil))))
    (gEnd 3 false xNext))
    (gYIf 3 (gvOld (xTest (xOp2 dEq (xVar 6) (xC (.int 3)))))
    (gThen (gWSet 3 7 (gvOld (xOp2 dIx (xOpL dLst (xCons (xOpL dTup (xCons (xVar 2) (xCons (xC (.int 0)) xNil))) (xCons (xOpL dTup (xCons (xC (.int 0)) (xCons (xOp1 dNeg (xC (.int 1))) xNil))) (xCons (xOpL dTup (xCons (xOp1 dNeg (xC (.int 1))) (xCons (xVar 2) xNil))) (xCons (xOpL dTup (xCons (xOp2 dPow (xC (.int 10)) (xC (.int 59))) (xCons (xOp2 dPow (xC (.int 10)) (xC (.int 59))) xNil))) (xCons (xOpL dTup (xCons (xVar 2) (xCons (xVar 2) xNil))) xNil)))))) (xCallB f_law_draw 0 (xCons (xC (.int 5)) xNil)))))
    (gThen (gApp 3 (xVar 5) (xVar 7))
    (gEnd 3 false xNext)))
    (gYIf 3 (gvOld (xTest (xOp2 dEq (xVar 6) (xC (.int 4)))))
    (gEnd 3 false (xDrop (xLPop 3 (xVar 5))))
    (gYIf 3 (gvOld (xTest (xOp2 dEq (xVar 6) (xC (.int 5)))))
    (gEnd 3 false (xLIns 3 (xVar 5) (xOpL dLst xNil)))
    (gYIf 3 (gvOld (xTest (xOp2 dEq (xVar 6) (xC (.int 6)))))
    (gEnd 3 false (lockS 3 (xSetO 3 (xLC (xItO 3) (gSet 4) xYes (xOpL dLst xNil) [4]))))
    (gEnd 3 false xNext)))))))
noncomputable def b_law_bent_2 : List D → XS := (gThen (gWIf 3 (gvOld (xTest (xOp2 dEq (xCallB f_law_draw 0 (xCons (xC (.int 2)) xNil)) (xC (.int 0)))))
    (gSeq (gWPut 3 (xOp1 dNeg (xC (.int 1))))
    gNil)
    gNil)
    (gThen (gWSet 3 5 (gvCall f_law_draw 3 gvLen))
    (gThen (gWSet 3 6 (gvOld (xCallB f_law_draw 0 (xCons (xC (.int 8)) xNil))))
    (gYSeq b_law_bent_1
    (xSeq (xIfS (xTest (xOp2 dEq (xCallB f_law_draw 0 (xCons (xC (.int 3)) xNil)) (xC (.int 0))))
    (lockS 3 (xSetO 3 (xLC (xItO 3) (gSet 4) xYes (xOp1 dRevL (xVar 4)) [4])))
    xNext)
    (xRet (xTake 3)))))))
noncomputable def b_law_bent : XS := (xRegW 3 (xIt (xVar 1)) (gSet 4) (xOpL dList (xCons (xVar 4) xNil)) [4] b_law_bent_2)
noncomputable def f_law_bent : DF := runB [false, false] 8 true b_law_bent
/-! _law_bad -/
noncomputable def b_law_bad : XS := (xSeq (xSet 1 (xOpL dLst (xCons (xOpL dTup (xCons (xC (.int 0)) (xCons (xC (.int 1)) xNil))) (xCons (xOpL dTup (xCons (xC (.int 4)) (xCons (xC (.int 1)) xNil))) (xCons (xOpL dTup (xCons (xC (.int 1)) (xCons (xC (.int 7)) xNil))) (xCons (xOpL dTup (xCons (xC (.int 3)) (xCons (xC (.int 4)) xNil))) (xCons (xOpL dTup (xCons (xC (.int 2)) (xCons (xC (.int 5)) xNil))) (xCons (xOpL dLst (xCons (xC (.int 1)) (xCons (xC (.int 1)) xNil))) (xCons (xOpL dTup (xCons (xC (.int 1)) xNil)) (xCons (xC .non) (xCons (xOpL dTup (xCons (xC (.bl true)) (xCons (xC (.int 1)) xNil))) (xCons (xC (.str "11")) (xCons (xOpL dTup (xCons (xOp1 dNeg (xC (.int 1))) (xCons (xOp2 dPow (xC (.int 10)) (xC (.int 40))) xNil))) xNil)))))))))))))
    (xRet (xOp2 dIx (xVar 1) (xCallB f_law_draw 0 (xCons (xOpL dLen (xCons (xVar 1) xNil)) xNil)))))
noncomputable def f_law_bad : DF := runB [] 2 false b_law_bad
/-! _law_refused -/
noncomputable def b_law_refused_1 : XS := (xDrop (xCall f_holds_none (xCons (xVar 0) (xCons (xVar 1) (xConsR (xVar 2) (xCons (xVar 3) xNil))))))
noncomputable def e_law_refused_2 : XS := (xSet 4 (xOpL dLst (xCons (xOp1 (dIsX ["NoSize", "Outside"] (fun k => isX k ["NoSize"])) (xVar 5)) (xCons (xOp1 (dIsX ["NoSize", "Outside"] (fun k => isX k ["Outside"])) (xVar 5)) (xCons (xOp1 (dIsX ["NoSize", "Outside"] (fun k => isX k ["ValueError"])) (xVar 5)) xNil)))))
noncomputable def b_law_refused : XS := (xSeq (xSet 4 (xOpL dLst xNil))
    (xSeq (xTryV 5 ["NoSize", "Outside"] (fun k => isX k ["CellError"]) b_law_refused_1 e_law_refused_2)
    (xRet (xVar 4))))
noncomputable def f_law_refused : DF := runP [false, false, false, false] 6 false b_law_refused
/-! law -/
noncomputable def b_law_1 : XS := (xSeq (xSet 10 (xCallB f_law_bent 5 (xCons (xVar 8) (xCons (xOp2 dShl (xC (.int 1)) (xOp2 dAdd (xOp2 dIx (xVar 6) (xC (.int 0))) (xC (.int 2)))) xNil))))
    (xSeq (xSet 11 (xLC (xIt (xVar 10)) (gSet 13) xYes (xOpL dList (xCons (xVar 13) xNil)) [13]))
    (xSeq (xSet 12 (xCall f_holds_none (xCons (xVar 2) (xCons (xVar 6) (xConsR (xOpL dList (xCons (xVar 7) xNil)) (xCons (xVar 11) xNil))))))
    (xIfS (xOr (xNot (xTest (xOpL dIsi (xCons (xVar 12) (xCons (xC (.ty "bool")) xNil))))) (xOr (xTest (xOp2 dNe (xVar 12) (xCall f_law_is_paper (xCons (xVar 2) (xCons (xVar 6) (xCons (xVar 7) (xCons (xVar 10) xNil))))))) (xTest (xOp2 dNe (xVar 11) (xVar 10)))))
    (xRet (xC (.bl false)))
    xNext))))
noncomputable def b_law_2 : XS := (xSeq (xSetO 5 (xCall f_law_pen (xCons (xVar 0) (xCons (xVar 4) xNil))))
    (xSeq (xSet 6 (xCallB f_law_size 5 (xCons (xVar 4) xNil)))
    (xSeq (xSet 7 (xCallB f_law_picture 5 (xCons (xVar 6) xNil)))
    (xSeq (xSet 8 (xCall f_law_least (xCons (xVar 2) (xCons (xVar 6) (xCons (xVar 7) xNil)))))
    (xFor (xItR1 (xOp2 dSub (xC (.int 2)) (xOp2 dDiv (xOp2 dIx (xVar 6) (xC (.int 0))) (xC (.int 3))))) (gSet 9) b_law_1)))))
noncomputable def b_law : XS := (xSeq (xSetO 1 (xCall f_law_pen (xCons (xVar 0) (xCons (xC (.int 0)) xNil))))
    (xSeq (xSet 2 (xCallB f_law_rule 1 xNil))
    (xSeq (xSet 3 (xOp2 dIx (xOpL dLst (xCons (xOpL dTup (xCons (xOp1 dNeg (xC (.int 1))) (xCons (xC (.int 0)) xNil))) (xCons (xOpL dTup (xCons (xC (.int 1)) (xCons (xC (.int 0)) xNil))) (xCons (xOpL dTup (xCons (xC (.int 0)) (xCons (xOp1 dNeg (xC (.int 1))) xNil))) (xCons (xOpL dTup (xCons (xC (.int 0)) (xCons (xC (.int 2)) xNil))) (xCons (xOpL dTup (xCons (xOp2 dPow (xC (.int 10)) (xC (.int 59))) (xCons (xC (.int 1)) xNil))) xNil)))))) (xCallB f_law_draw 1 (xCons (xC (.int 5)) xNil))))
    (xSeq (xIfS (xTest (xOp2 dNe (xCall f_law_refused (xCons (xVar 2) (xCons (xOpL dTup (xCons (xC (.int 1)) (xCons (xC (.int 2)) xNil))) (xCons (xOpL dLst (xCons (xVar 3) xNil)) (xCons (xOpL dLst (xCons (xOpL dLst xNil) (xCons (xOpL dLst xNil) xNil))) xNil))))) (xOpL dLst (xCons (xC (.bl false)) (xCons (xC (.bl true)) (xCons (xC (.bl true)) xNil))))))
    (xRet (xC (.bl false)))
    xNext)
    (xSeq (xIfS (xTest (xOp2 dNe (xCall f_law_refused (xCons (xVar 2) (xCons (xCallB f_law_bad 1 xNil) (xCons (xOp2 dIx (xOpL dLst (xCons (xOpL dLst (xCons (xOpL dTup (xCons (xC (.int 0)) (xCons (xC (.int 0)) xNil))) xNil)) (xCons (xOpL dLst (xCons (xVar 3) xNil)) xNil))) (xCallB f_law_draw 1 (xCons (xC (.int 2)) xNil))) (xCons (xOpL dLst (xCons (xOpL dLst xNil) xNil)) xNil))))) (xOpL dLst (xCons (xC (.bl true)) (xCons (xC (.bl false)) (xCons (xC (.bl true)) xNil))))))
    (xRet (xC (.bl false)))
    xNext)
    (xSeq (xFor (xItR2 (xC (.int 1)) (xOpL dMax2 (xCons (xC (.int 2)) (xCons (xOpL dMin2 (xCons (xOpL dLen (xCons (xVar 0) xNil)) (xCons (xC (.int 4)) xNil))) xNil)))) (gSet 4) b_law_2)
    (xRet (xC (.bl true)))))))))
noncomputable def f_law : DF := runP [false] 14 false b_law
structure Ad where
  a_wall : Addr
  d_wall : FuncData
  a_is_whole : Addr
  d_is_whole : FuncData
  a_is_near : Addr
  d_is_near : FuncData
  a_offsets : Addr
  d_offsets : FuncData
  a_around : Addr
  d_around : FuncData
  a_comes : Addr
  d_comes : FuncData
  a_has_column : Addr
  d_has_column : FuncData
  a_rows_of : Addr
  d_rows_of : FuncData
  a_neighbours_in : Addr
  d_neighbours_in : FuncData
  a_Triples___init : Addr
  d_Triples___init : FuncData
  a_Triples_many_rows : Addr
  d_Triples_many_rows : FuncData
  a_Triples_are_shown : Addr
  d_Triples_are_shown : FuncData
  a_Triples_open_counts : Addr
  d_Triples_open_counts : FuncData
  a_Triples_fitting : Addr
  d_Triples_fitting : FuncData
  a_Triples_above : Addr
  d_Triples_above : FuncData
  a_Triples_below : Addr
  d_Triples_below : FuncData
  a_ask_father_box : Addr
  d_ask_father_box : FuncData
  a_first_layer : Addr
  d_first_layer : FuncData
  a_next_layer : Addr
  d_next_layer : FuncData
  a_rim_rows : Addr
  d_rim_rows : FuncData
  a_are_all_in : Addr
  d_are_all_in : FuncData
  a_holds_none : Addr
  d_holds_none : FuncData
  a_law_pen : Addr
  d_law_pen : FuncData
  a_law_draw : Addr
  d_law_draw : FuncData
  a_law_some : Addr
  d_law_some : FuncData
  a_law_rule : Addr
  d_law_rule : FuncData
  a_law_near : Addr
  d_law_near : FuncData
  a_law_table : Addr
  d_law_table : FuncData
  a_law_allowed : Addr
  d_law_allowed : FuncData
  a_law_below : Addr
  d_law_below : FuncData
  a_law_every : Addr
  d_law_every : FuncData
  a_law_is_paper : Addr
  d_law_is_paper : FuncData
  a_law_size : Addr
  d_law_size : FuncData
  a_law_picture : Addr
  d_law_picture : FuncData
  a_law_least : Addr
  d_law_least : FuncData
  a_law_bent : Addr
  d_law_bent : FuncData
  a_law_bad : Addr
  d_law_bad : FuncData
  a_law_refused : Addr
  d_law_refused : FuncData
  a_law : Addr
  d_law : FuncData
  c_NoSize : Addr
  c_Outside : Addr
  c_CellError : Addr
  c_Triples : Addr
structure Txt (K : PySem.W.Frag) (mg : Str → Option Value) (cv : String → Value) (A : Ad) : Prop where
  F_wall : Fun K "_wall" "_wall" s_wall A.a_wall A.d_wall
  B_wall : Binds K A.d_wall ["k"] []
  M_wall : mg "_wall" = some (.ref A.a_wall)
  F_is_whole : Fun K "is_whole" "is_whole" s_is_whole A.a_is_whole A.d_is_whole
  B_is_whole : Binds K A.d_is_whole ["thing"] []
  M_is_whole : mg "is_whole" = some (.ref A.a_is_whole)
  F_is_near : Fun K "is_near" "is_near" s_is_near A.a_is_near A.d_is_near
  B_is_near : Binds K A.d_is_near ["kind", "dx", "dy"] []
  M_is_near : mg "is_near" = some (.ref A.a_is_near)
  F_offsets : Fun K "offsets" "offsets" s_offsets A.a_offsets A.d_offsets
  B_offsets : Binds K A.d_offsets ["kind"] []
  M_offsets : mg "offsets" = some (.ref A.a_offsets)
  F_around : Fun K "around" "around" s_around A.a_around A.d_around
  B_around : Binds K A.d_around [] []
  M_around : mg "around" = some (.ref A.a_around)
  F_comes : Fun K "comes" "comes" s_comes A.a_comes A.d_comes
  B_comes : Binds K A.d_comes ["told", "alive", "count"] []
  M_comes : mg "comes" = some (.ref A.a_comes)
  F_has_column : Fun K "has_column" "has_column" s_has_column A.a_has_column A.d_has_column
  B_has_column : Binds K A.d_has_column ["row", "x"] []
  M_has_column : mg "has_column" = some (.ref A.a_has_column)
  F_rows_of : Fun K "rows_of" "rows_of" s_rows_of A.a_rows_of A.d_rows_of
  B_rows_of : Binds K A.d_rows_of ["size", "live"] []
  M_rows_of : mg "rows_of" = some (.ref A.a_rows_of)
  F_neighbours_in : Fun K "neighbours_in" "neighbours_in" s_neighbours_in A.a_neighbours_in A.d_neighbours_in
  B_neighbours_in : Binds K A.d_neighbours_in ["kind", "wide", "looked", "step"] []
  M_neighbours_in : mg "neighbours_in" = some (.ref A.a_neighbours_in)
  F_Triples___init : Fun K "__init__" "Triples.__init__" s_Triples___init A.a_Triples___init A.d_Triples___init
  B_Triples___init : Binds K A.d_Triples___init ["self", "told", "wide", "first", "last"] []
  F_Triples_many_rows : Fun K "many_rows" "Triples.many_rows" s_Triples_many_rows A.a_Triples_many_rows A.d_Triples_many_rows
  B_Triples_many_rows : Binds K A.d_Triples_many_rows ["self"] []
  F_Triples_are_shown : Fun K "are_shown" "Triples.are_shown" s_Triples_are_shown A.a_Triples_are_shown A.d_Triples_are_shown
  B_Triples_are_shown : Binds K A.d_Triples_are_shown ["self", "one", "two", "three", "due"] []
  F_Triples_open_counts : Fun K "open_counts" "Triples.open_counts" s_Triples_open_counts A.a_Triples_open_counts A.d_Triples_open_counts
  B_Triples_open_counts : Binds K A.d_Triples_open_counts ["self", "side", "two", "due"] []
  F_Triples_fitting : Fun K "fitting" "Triples.fitting" s_Triples_fitting A.a_Triples_fitting A.d_Triples_fitting
  B_Triples_fitting : Binds K A.d_Triples_fitting ["self", "table", "wanted"] []
  F_Triples_above : Fun K "above" "Triples.above" s_Triples_above A.a_Triples_above A.d_Triples_above
  B_Triples_above : Binds K A.d_Triples_above ["self", "two", "three", "due"] []
  F_Triples_below : Fun K "below" "Triples.below" s_Triples_below A.a_Triples_below A.d_Triples_below
  B_Triples_below : Binds K A.d_Triples_below ["self", "one", "two", "due"] []
  F_ask_father_box : Fun K "ask_father_box" "ask_father_box" s_ask_father_box A.a_ask_father_box A.d_ask_father_box
  B_ask_father_box : Binds K A.d_ask_father_box ["size", "live"] []
  M_ask_father_box : mg "ask_father_box" = some (.ref A.a_ask_father_box)
  F_first_layer : Fun K "first_layer" "first_layer" s_first_layer A.a_first_layer A.d_first_layer
  B_first_layer : Binds K A.d_first_layer ["triples", "due"] []
  M_first_layer : mg "first_layer" = some (.ref A.a_first_layer)
  F_next_layer : Fun K "next_layer" "next_layer" s_next_layer A.a_next_layer A.d_next_layer
  B_next_layer : Binds K A.d_next_layer ["triples", "layer", "due"] []
  M_next_layer : mg "next_layer" = some (.ref A.a_next_layer)
  F_rim_rows : Fun K "rim_rows" "rim_rows" s_rim_rows A.a_rim_rows A.d_rim_rows
  B_rim_rows : Binds K A.d_rim_rows ["size", "live"] []
  M_rim_rows : mg "rim_rows" = some (.ref A.a_rim_rows)
  F_are_all_in : Fun K "are_all_in" "are_all_in" s_are_all_in A.a_are_all_in A.d_are_all_in
  B_are_all_in : Binds K A.d_are_all_in ["layer", "some"] []
  M_are_all_in : mg "are_all_in" = some (.ref A.a_are_all_in)
  F_holds_none : Fun K "holds_none" "holds_none" s_holds_none A.a_holds_none A.d_holds_none
  B_holds_none : Binds K A.d_holds_none ["told", "size", "live", "lists"] []
  M_holds_none : mg "holds_none" = some (.ref A.a_holds_none)
  F_law_pen : Fun K "_law_pen" "_law_pen" s_law_pen A.a_law_pen A.d_law_pen
  B_law_pen : Binds K A.d_law_pen ["_law_script", "_law_k"] []
  M_law_pen : mg "_law_pen" = some (.ref A.a_law_pen)
  F_law_draw : Fun K "_law_draw" "_law_draw" s_law_draw A.a_law_draw A.d_law_draw
  B_law_draw : Binds K A.d_law_draw ["_law_pen_here", "_law_many"] []
  M_law_draw : mg "_law_draw" = some (.ref A.a_law_draw)
  F_law_some : Fun K "_law_some" "_law_some" s_law_some A.a_law_some A.d_law_some
  B_law_some : Binds K A.d_law_some ["_law_pen_here", "_law_kind"] []
  M_law_some : mg "_law_some" = some (.ref A.a_law_some)
  F_law_rule : Fun K "_law_rule" "_law_rule" s_law_rule A.a_law_rule A.d_law_rule
  B_law_rule : Binds K A.d_law_rule ["_law_pen_here"] []
  M_law_rule : mg "_law_rule" = some (.ref A.a_law_rule)
  F_law_near : Fun K "_law_near" "_law_near" s_law_near A.a_law_near A.d_law_near
  B_law_near : Binds K A.d_law_near ["_law_kind"] []
  M_law_near : mg "_law_near" = some (.ref A.a_law_near)
  F_law_table : Fun K "_law_table" "_law_table" s_law_table A.a_law_table A.d_law_table
  B_law_table : Binds K A.d_law_table ["_law_code", "_law_wide", "_law_dy"] []
  M_law_table : mg "_law_table" = some (.ref A.a_law_table)
  F_law_allowed : Fun K "_law_allowed" "_law_allowed" s_law_allowed A.a_law_allowed A.d_law_allowed
  B_law_allowed : Binds K A.d_law_allowed ["_law_code", "_law_tables", "_law_pair", "_law_x", "_law_due"] []
  M_law_allowed : mg "_law_allowed" = some (.ref A.a_law_allowed)
  F_law_below : Fun K "_law_below" "_law_below" s_law_below A.a_law_below A.d_law_below
  B_law_below : Binds K A.d_law_below ["_law_code", "_law_tables", "_law_pairs", "_law_due"] []
  M_law_below : mg "_law_below" = some (.ref A.a_law_below)
  F_law_every : Fun K "_law_every" "_law_every" s_law_every A.a_law_every A.d_law_every
  B_law_every : Binds K A.d_law_every ["_law_many"] []
  M_law_every : mg "_law_every" = some (.ref A.a_law_every)
  F_law_is_paper : Fun K "_law_is_paper" "_law_is_paper" s_law_is_paper A.a_law_is_paper A.d_law_is_paper
  B_law_is_paper : Binds K A.d_law_is_paper ["_law_code", "_law_size_here", "_law_live", "_law_lists"] []
  M_law_is_paper : mg "_law_is_paper" = some (.ref A.a_law_is_paper)
  F_law_size : Fun K "_law_size" "_law_size" s_law_size A.a_law_size A.d_law_size
  B_law_size : Binds K A.d_law_size ["_law_pen_here", "_law_at"] []
  M_law_size : mg "_law_size" = some (.ref A.a_law_size)
  F_law_picture : Fun K "_law_picture" "_law_picture" s_law_picture A.a_law_picture A.d_law_picture
  B_law_picture : Binds K A.d_law_picture ["_law_pen_here", "_law_size_here"] []
  M_law_picture : mg "_law_picture" = some (.ref A.a_law_picture)
  F_law_least : Fun K "_law_least" "_law_least" s_law_least A.a_law_least A.d_law_least
  B_law_least : Binds K A.d_law_least ["_law_code", "_law_size_here", "_law_live"] []
  M_law_least : mg "_law_least" = some (.ref A.a_law_least)
  F_law_bent : Fun K "_law_bent" "_law_bent" s_law_bent A.a_law_bent A.d_law_bent
  B_law_bent : Binds K A.d_law_bent ["_law_pen_here", "_law_lists", "_law_many"] []
  M_law_bent : mg "_law_bent" = some (.ref A.a_law_bent)
  F_law_bad : Fun K "_law_bad" "_law_bad" s_law_bad A.a_law_bad A.d_law_bad
  B_law_bad : Binds K A.d_law_bad ["_law_pen_here"] []
  M_law_bad : mg "_law_bad" = some (.ref A.a_law_bad)
  F_law_refused : Fun K "_law_refused" "_law_refused" s_law_refused A.a_law_refused A.d_law_refused
  B_law_refused : Binds K A.d_law_refused ["_law_code", "_law_size_here", "_law_live", "_law_lists"] []
  M_law_refused : mg "_law_refused" = some (.ref A.a_law_refused)
  F_law : Fun K "law" "law" s_law A.a_law A.d_law
  B_law : Binds K A.d_law ["_law_script"] []
  M_law : mg "law" = some (.ref A.a_law)
  N_Triples : mg "Triples" = some (.ref A.c_Triples)
  W_Triples : ClsAt K "Triples" A.c_Triples
  I_Triples : Cls K A.c_Triples
  J_Triples : Mk K A.c_Triples A.a_Triples___init
  H_Triples_many_rows : Meth K A.c_Triples "many_rows" A.a_Triples_many_rows
  H_Triples_are_shown : Meth K A.c_Triples "are_shown" A.a_Triples_are_shown
  H_Triples_open_counts : Meth K A.c_Triples "open_counts" A.a_Triples_open_counts
  H_Triples_fitting : Meth K A.c_Triples "fitting" A.a_Triples_fitting
  H_Triples_above : Meth K A.c_Triples "above" A.a_Triples_above
  H_Triples_below : Meth K A.c_Triples "below" A.a_Triples_below
  A_Triples_by_rule : NoAttr K A.c_Triples "by_rule"
  A_Triples_looked : NoAttr K A.c_Triples "looked"
  A_Triples_tables : NoAttr K A.c_Triples "tables"
  W_NoSize : ClsAt K "NoSize" A.c_NoSize
  W_Outside : ClsAt K "Outside" A.c_Outside
  U_NoSize : PySem.W.subIn K (.type "NoneType") (.ref A.c_NoSize) = some false
  U_Outside : PySem.W.subIn K (.type "NoneType") (.ref A.c_Outside) = some false
  Z_ValueError : mg "ValueError" = none
  Z_all : mg "all" = none
  Z_bool : mg "bool" = none
  Z_enumerate : mg "enumerate" = none
  Z_int : mg "int" = none
  Z_isinstance : mg "isinstance" = none
  Z_len : mg "len" = none
  Z_list : mg "list" = none
  Z_max : mg "max" = none
  Z_min : mg "min" = none
  Z_range : mg "range" = none
  Z_reversed : mg "reversed" = none
  Z_tuple : mg "tuple" = none
  Z_zip : mg "zip" = none
  K_MOST_CELLS : ∃ t, mg "MOST_CELLS" = some (.int 9 t)
  K_WIDEST : ∃ t, mg "WIDEST" = some (.int 3 t)
  K_HIGHEST : ∃ t, mg "HIGHEST" = some (.int 6 t)
  N_NoSize : mg "NoSize" = some (.ref A.c_NoSize)
  L_NoSize : ClsT K A.c_NoSize
  N_Outside : mg "Outside" = some (.ref A.c_Outside)
  L_Outside : ClsT K A.c_Outside
  N_CellError : mg "CellError" = some (.ref A.c_CellError)
  L_CellError : ClsT K A.c_CellError
  Y_CellError : PySem.W.subIn K (.ref A.c_CellError) (.type "BaseException") = some true
  S_NoSize_NoSize : PySem.W.subIn K (.ref A.c_NoSize) (.ref A.c_NoSize) = some true
  S_NoSize_Outside : PySem.W.subIn K (.ref A.c_NoSize) (.ref A.c_Outside) = some false
  S_NoSize_CellError : PySem.W.subIn K (.ref A.c_NoSize) (.ref A.c_CellError) = some true
  S_NoSize_ValueError : PySem.W.subIn K (.ref A.c_NoSize) (.type "ValueError") = some true
  S_Outside_NoSize : PySem.W.subIn K (.ref A.c_Outside) (.ref A.c_NoSize) = some false
  S_Outside_Outside : PySem.W.subIn K (.ref A.c_Outside) (.ref A.c_Outside) = some true
  S_Outside_CellError : PySem.W.subIn K (.ref A.c_Outside) (.ref A.c_CellError) = some true
  S_Outside_ValueError : PySem.W.subIn K (.ref A.c_Outside) (.type "ValueError") = some true
  T_NoSize : ExcT K A.c_NoSize
  V_NoSize : cv "NoSize" = .ref A.c_NoSize
  T_Outside : ExcT K A.c_Outside
  V_Outside : cv "Outside" = .ref A.c_Outside
  E_NoSize : ExcC K A.c_NoSize
  E_Outside : ExcC K A.c_Outside
section
variable {P : Program} {w : World} {K : PySem.W.Frag} {mg : Str → Option Value} {base : Heap} {cv : String → Value} {A : Ad}
theorem ok_wall (T : Txt K mg cv A) : FnOk P w K mg base (L2.CX P w) 1 A.a_wall A.d_wall ["k"] (spP K cv false [false] f_wall) := by
  have nd := sc_wall.nd
  exact fn_pure (body := b_wall) [false] T.F_wall sc_wall f_wall rfl (by decide) rfl (fun cdv AA outer s H E hr => by
    have tk := takes_of (X := cxOf (L2.CX P w) P w K mg base ["k"] "_wall" (defScope s_wall) A.a_wall cdv AA outer s H E) rfl rfl rfl rfl
    exact (xs_one (xs_while 1000 (passes_of rfl) (xt_val xe_bl)
    (xs_one xs_pass))))
theorem ok_is_whole (T : Txt K mg cv A) : FnOk P w K mg base (L2.CX P w) 1 A.a_is_whole A.d_is_whole ["thing"] (spP K cv false [false] f_is_whole) := by
  have nd := sc_is_whole.nd
  exact fn_pure (body := b_is_whole) [false] T.F_is_whole sc_is_whole f_is_whole rfl (by decide) rfl (fun cdv AA outer s H E hr => by
    have tk := takes_of (X := cxOf (L2.CX P w) P w K mg base ["thing"] "is_whole" (defScope s_is_whole) A.a_is_whole cdv AA outer s H E) rfl rfl rfl rfl
    exact (xs_one (xs_ret (xe_and (xe_callB call_isi imp_isi (by rfl) T.Z_isinstance bt_isinstance (xa_cons (xe_var 0) (xa_cons (xe_ty (by rfl) T.Z_int bt_int) xa_nil))) (xe_one (xe_not (xe_callB call_isi imp_isi (by rfl) T.Z_isinstance bt_isinstance (xa_cons (xe_var 0) (xa_cons (xe_ty (by rfl) T.Z_bool bt_bool) xa_nil)))))))))
theorem ok_is_near (T : Txt K mg cv A) : FnOk P w K mg base (L2.CX P w) 1 A.a_is_near A.d_is_near ["kind", "dx", "dy"] (spP K cv false [false, false, false] f_is_near) := by
  have nd := sc_is_near.nd
  exact fn_pure (body := b_is_near) [false, false, false] T.F_is_near sc_is_near f_is_near rfl (by decide) rfl (fun cdv AA outer s H E hr => by
    have tk := takes_of (X := cxOf (L2.CX P w) P w K mg base ["kind", "dx", "dy"] "is_near" (defScope s_is_near) A.a_is_near cdv AA outer s H E) rfl rfl rfl rfl
    exact (xs_one (xs_ret (xe_or (xe_cmp (op_eqD hr.units) imp_eq (xe_var 0) xe_int (nomark _)) (xe_or (xe_cmp (op_eqD hr.units) imp_eq (xe_var 1) xe_int (nomark _)) (xe_or (xe_cmp (op_eqD hr.units) imp_eq (xe_var 2) xe_int (nomark _)) (xe_one (xe_and (xe_cmp (op_eqD hr.units) imp_eq (xe_var 0) xe_int (nomark _)) (xe_one (xe_cmp (op_eqD hr.units) imp_eq (xe_var 1) (xe_var 2) (nomark _)))))))))))
theorem ok_around (T : Txt K mg cv A) : FnOk P w K mg base (L2.CX P w) 1 A.a_around A.d_around [] (spP K cv true [] f_around) := by
  have nd := sc_around.nd
  exact fn_pure (body := b_around) [] T.F_around sc_around f_around rfl (by decide) rfl (fun cdv AA outer s H E hr => by
    have tk := takes_of (X := cxOf (L2.CX P w) P w K mg base ["$", "found", "dx", "dy"] "around" (defScope s_around) A.a_around cdv AA outer s H E) rfl rfl rfl rfl
    exact (xs_cons (xs_setO (i := 1) nd rfl (Or.inl rfl) (xn_lst xa_nil))
    (xs_cons (xs_for (passes_of rfl) rfl (xi_range2 (by rfl) T.Z_range (xe_un un_neg imp_neg xe_int) xe_int) (xg_name nd rfl (Or.inl rfl))
    (xs_one (xs_for (passes_of rfl) rfl (xi_range2 (by rfl) T.Z_range (xe_un un_neg imp_neg xe_int) xe_int) (xg_name nd rfl (Or.inl rfl))
    (xs_one (xs_append (i := 1) rfl (Or.inl rfl) (xe_tup (xa_cons (xe_var 2) (xa_cons (xe_var 3) xa_nil))) (pe_bm PySem.F.plainAttrs_list PySem.F.slot_list_append PySem.F.type_list_append mt_append (pv 1) (pa_cons (xe_tup (xa_cons (xe_var 2) (xa_cons (xe_var 3) xa_nil))) pa_nil)))))))
    (xs_one (xs_retN (xn_take 1))))))
theorem ok_offsets (T : Txt K mg cv A) : FnOk P w K mg base (L2.CX P w) 2 A.a_offsets A.d_offsets ["kind"] (spP K cv true [false] f_offsets) := by
  have G_is_near := ok_is_near (P := P) (w := w) (base := base) (cv := cv) T
  have G_around := ok_around (P := P) (w := w) (base := base) (cv := cv) T
  have nd := sc_offsets.nd
  exact fn_pure (body := b_offsets) [false] T.F_offsets sc_offsets f_offsets rfl (by decide) rfl (fun cdv AA outer s H E hr => by
    have tk := takes_of (X := cxOf (L2.CX P w) P w K mg base ["kind", "steps", "dx", "dy", "step"] "offsets" (defScope s_offsets) A.a_offsets cdv AA outer s H E) rfl rfl rfl rfl
    exact (xs_cons (xs_setLc (i := 1) (own := [("dx", 2), ("dy", 3)]) (by decide) rfl nd rfl rfl (sw_true rfl rfl rfl (by decide +kernel)) (xi_seq (of_new (xn_call0 tk G_around (hr.mono (by decide)) (by rfl) T.M_around T.F_around.kp T.B_around))) (blkOk_by (own := [("dx", 2), ("dy", 3)]) (N := ["kind", "steps", "dx", "dy", "step"]) (sc := defScope s_offsets) (by decide +kernel)) (fun _ _ _ _ _ => (xg_tup rfl (xgs_cons (xg_nameW nd rfl (Or.inl rfl)) (xgs_cons (xg_nameW nd rfl (Or.inl rfl)) xgs_nil)))) (fun _ _ _ _ _ => (xts_one (xt_val (xe_call (ban := 1000) takes0 G_is_near (hr.mono (by decide)) (by rfl) T.M_is_near T.F_is_near.kp T.B_is_near (xm_val (xe_var 0) (xm_val (xe_var 2) (xm_val (xe_var 3) xm_nil))))))) (fun _ _ _ _ _ => (xe_tup (xa_cons (xe_var 2) (xa_cons (xe_var 3) xa_nil)))))
    (xs_one (xs_retN (xn_lc (own := [("step", 4)]) rfl nd (xi_seq (xe_var 1)) (blkOk_by (own := [("step", 4)]) (N := ["kind", "steps", "dx", "dy", "step"]) (sc := defScope s_offsets) (by decide +kernel)) (fun _ _ _ _ _ => (xg_nameW nd rfl (Or.inl rfl))) (fun _ _ _ _ _ => (xts_one (xt_cmp (op_neD hr.units) imp_ne (xe_var 4) (xe_tup (xa_cons xe_int (xa_cons xe_int xa_nil))) (nomark _)))) (fun _ _ _ _ _ => (xe_var 4)))))))
theorem ok_comes (T : Txt K mg cv A) : FnOk P w K mg base (L2.CX P w) 1 A.a_comes A.d_comes ["told", "alive", "count"] (spP K cv false [false, false, false] f_comes) := by
  have nd := sc_comes.nd
  exact fn_pure (body := b_comes) [false, false, false] T.F_comes sc_comes f_comes rfl (by decide) rfl (fun cdv AA outer s H E hr => by
    have tk := takes_of (X := cxOf (L2.CX P w) P w K mg base ["told", "alive", "count"] "comes" (defScope s_comes) A.a_comes cdv AA outer s H E) rfl rfl rfl rfl
    exact (xs_cons (xs_if (xt_val (xe_var 1))
    (xs_one (xs_ret (xe_cmp (op_inX (hu65 hr)) imp_inX (xe_var 2) (xe_ixR ix_seq imp_ix (xe_var 0) xe_int (fun _ _ => rfl)) (by rfl))))
    xs_nil)
    (xs_one (xs_ret (xe_cmp (op_inX (hu65 hr)) imp_inX (xe_var 2) (xe_ixR ix_seq imp_ix (xe_var 0) xe_int (fun _ _ => rfl)) (by rfl))))))
theorem ok_has_column (T : Txt K mg cv A) : FnOk P w K mg base (L2.CX P w) 1 A.a_has_column A.d_has_column ["row", "x"] (spP K cv false [false, false] f_has_column) := by
  have nd := sc_has_column.nd
  exact fn_pure (body := b_has_column) [false, false] T.F_has_column sc_has_column f_has_column rfl (by decide) rfl (fun cdv AA outer s H E hr => by
    have tk := takes_of (X := cxOf (L2.CX P w) P w K mg base ["row", "x"] "has_column" (defScope s_has_column) A.a_has_column cdv AA outer s H E) rfl rfl rfl rfl
    exact (xs_one (xs_ret (xe_and (xe_cmp op_ge (imp_I0 fun _ _ _ => .bl _) (xe_var 1) xe_int (nomark _)) (xe_one (xe_cmp (op_eqD hr.units) imp_eq (xe_op2R op_and (imp_I0 fun _ _ _ => .int _) (xe_op2R op_shr (imp_I fun _ _ _ => .int _) (xe_var 0) (xe_var 1)) xe_int) xe_int (nomark _)))))))
theorem ok_rows_of (T : Txt K mg cv A) : FnOk P w K mg base (L2.CX P w) 1 A.a_rows_of A.d_rows_of ["size", "live"] (spP K cv true [false, true] f_rows_of) := by
  have nd := sc_rows_of.nd
  exact fn_pure (body := b_rows_of) [false, true] T.F_rows_of sc_rows_of f_rows_of rfl (by decide) rfl (fun cdv AA outer s H E hr => by
    have tk := takes_of (X := cxOf (L2.CX P w) P w K mg base ["size", "live", "rows", "y", "x"] "rows_of" (defScope s_rows_of) A.a_rows_of cdv AA outer s H E) rfl rfl rfl rfl
    exact (xs_cons (xs_setOLc (i := 2) (own := [("y", 3)]) (by decide) rfl nd rfl rfl (sw_true rfl rfl rfl (by decide +kernel)) (xi_range1 (by rfl) T.Z_range (xe_ixR ix_seq imp_ix (xe_var 0) xe_int (fun _ _ => rfl))) (blkOk_by (own := [("y", 3)]) (N := ["size", "live", "rows", "y", "x"]) (sc := defScope s_rows_of) (by decide +kernel)) (fun _ _ _ _ _ => (xg_nameW nd rfl (Or.inl rfl))) (fun _ _ _ _ _ => xts_nil) (fun _ _ _ _ _ => xe_int))
    (xs_cons (xs_for (passes_of rfl) rfl (xi_own (pv 1)) (xg_tup rfl (xgs_cons (xg_name nd rfl (Or.inl rfl)) (xgs_cons (xg_name nd rfl (Or.inl rfl)) xgs_nil)))
    (xs_one (xs_setIx (i := 2) rfl (Or.inl rfl) (pv 2) (xe_var 3) (xe_op2R op_addAll imp_add (xe_ixO (pv 2) (xe_var 3) (fun _ _ => rfl)) (xe_op2R op_shl (imp_I fun _ _ _ => .int _) xe_int (xe_var 4))))))
    (xs_one (xs_retN (xn_take 2))))))
theorem ok_neighbours_in (T : Txt K mg cv A) : FnOk P w K mg base (L2.CX P w) 3 A.a_neighbours_in A.d_neighbours_in ["kind", "wide", "looked", "step"] (spP K cv true [false, false, true, false] f_neighbours_in) := by
  have G_offsets := ok_offsets (P := P) (w := w) (base := base) (cv := cv) T
  have G_has_column := ok_has_column (P := P) (w := w) (base := base) (cv := cv) T
  have nd := sc_neighbours_in.nd
  exact fn_pure (body := b_neighbours_in) [false, false, true, false] T.F_neighbours_in sc_neighbours_in f_neighbours_in rfl (by decide) rfl (fun cdv AA outer s H E hr => by
    have tk := takes_of (X := cxOf (L2.CX P w) P w K mg base ["kind", "wide", "looked", "step", "near", "dx", "dy", "found", "row", "x"] "neighbours_in" (defScope s_neighbours_in) A.a_neighbours_in cdv AA outer s H E) rfl rfl rfl rfl
    exact (xs_cons (xs_set (i := 4) nd rfl (Or.inr rfl) (of_new (xn_lc (own := [("dx", 5), ("dy", 6)]) rfl nd (xi_seq (of_new (xn_call (ban := 1000) tk G_offsets (hr.mono (by decide)) (by rfl) T.M_offsets T.F_offsets.kp T.B_offsets (xm_val (xe_var 0) xm_nil)))) (blkOk_by (own := [("dx", 5), ("dy", 6)]) (N := ["kind", "wide", "looked", "step", "near", "dx", "dy", "found", "row", "x"]) (sc := defScope s_neighbours_in) (by decide +kernel)) (fun _ _ _ _ _ => (xg_tup rfl (xgs_cons (xg_nameW nd rfl (Or.inl rfl)) (xgs_cons (xg_nameW nd rfl (Or.inl rfl)) xgs_nil)))) (fun _ _ _ _ _ => (xts_one (xt_cmp (op_eqD hr.units) imp_eq (xe_var 6) (xe_var 3) (nomark _)))) (fun _ _ _ _ _ => (xe_var 5)))))
    (xs_cons (xs_setO (i := 7) nd rfl (Or.inl rfl) (xn_lst xa_nil))
    (xs_cons (xs_for (passes_of rfl) rfl (xi_range1 (by rfl) T.Z_range (xe_op2R op_shl (imp_I fun _ _ _ => .int _) xe_int (xe_var 1))) (xg_name nd rfl (Or.inr rfl))
    (xs_one (xs_append (i := 7) rfl (Or.inl rfl) (of_new (xn_lc (own := [("x", 9)]) rfl nd (xi_own (pv 2)) (blkOk_by (own := [("x", 9)]) (N := ["kind", "wide", "looked", "step", "near", "dx", "dy", "found", "row", "x"]) (sc := defScope s_neighbours_in) (by decide +kernel)) (fun _ _ _ _ _ => (xg_nameW nd rfl (Or.inr rfl))) (fun _ _ _ _ _ => xts_nil) (fun _ _ _ _ _ => (xe_callB call_lenAll imp_len (by rfl) T.Z_len bt_len (xa_cons (of_new (xn_lc (own := [("dx", 5)]) rfl nd (xi_seq (xe_var 4)) (blkOk_by (own := [("dx", 5)]) (N := ["kind", "wide", "looked", "step", "near", "dx", "dy", "found", "row", "x"]) (by kernel_rfl)) (fun _ _ _ _ _ => (xg_nameW nd rfl (Or.inl rfl))) (fun _ _ _ _ _ => (xts_one (xt_val (xe_call (ban := 1000) takes0 G_has_column (hr.mono (by decide)) (by rfl) T.M_has_column T.F_has_column.kp T.B_has_column (xm_val (xe_var 8) (xm_val (xe_op2R op_addAll imp_add (xe_var 9) (xe_var 5)) xm_nil)))))) (fun _ _ _ _ _ => (xe_var 5)))) xa_nil))))) (pe_bm PySem.F.plainAttrs_list PySem.F.slot_list_append PySem.F.type_list_append mt_append (pv 7) (pa_cons (of_new (xn_lc (own := [("x", 9)]) rfl nd (xi_own (pv 2)) (blkOk_by (own := [("x", 9)]) (N := ["kind", "wide", "looked", "step", "near", "dx", "dy", "found", "row", "x"]) (sc := defScope s_neighbours_in) (by decide +kernel)) (fun _ _ _ _ _ => (xg_nameW nd rfl (Or.inr rfl))) (fun _ _ _ _ _ => xts_nil) (fun _ _ _ _ _ => (xe_callB call_lenAll imp_len (by rfl) T.Z_len bt_len (xa_cons (of_new (xn_lc (own := [("dx", 5)]) rfl nd (xi_seq (xe_var 4)) (blkOk_by (own := [("dx", 5)]) (N := ["kind", "wide", "looked", "step", "near", "dx", "dy", "found", "row", "x"]) (by kernel_rfl)) (fun _ _ _ _ _ => (xg_nameW nd rfl (Or.inl rfl))) (fun _ _ _ _ _ => (xts_one (xt_val (xe_call (ban := 1000) takes0 G_has_column (hr.mono (by decide)) (by rfl) T.M_has_column T.F_has_column.kp T.B_has_column (xm_val (xe_var 8) (xm_val (xe_op2R op_addAll imp_add (xe_var 9) (xe_var 5)) xm_nil)))))) (fun _ _ _ _ _ => (xe_var 5)))) xa_nil))))) pa_nil)))))
    (xs_one (xs_retN (xn_take 7)))))))
theorem ok_Triples___init (T : Txt K mg cv A) : FnOk P w K mg base (L2.CX P w) 4 A.a_Triples___init A.d_Triples___init ["self", "told", "wide", "first", "last"] (spB K cv false [false, false, false, false] f_Triples___init) := by
  have G_neighbours_in := ok_neighbours_in (P := P) (w := w) (base := base) (cv := cv) T
  have nd := sc_Triples___init.nd
  exact fn_bor (body := b_Triples___init) [false, false, false, false] T.F_Triples___init sc_Triples___init f_Triples___init rfl (by decide) rfl (fun cdv AA outer s H E hr => by
    have tk := takes_of (X := cxOf (L2.CX P w) P w K mg base ["self", "told", "wide", "first", "last", "step"] "Triples.__init__" (defScope s_Triples___init) A.a_Triples___init cdv AA outer s H E) rfl rfl rfl rfl
    exact (xs_cons (xs_setF T.W_Triples T.I_Triples T.A_Triples_by_rule (pv 0) (xe_var 1))
    (xs_cons (xs_setF T.W_Triples T.I_Triples T.A_Triples_looked (pv 0) (of_new (xn_listR2 rfl (by rfl) T.Z_list (by rfl) T.Z_range (xe_var 3) (xe_op2R op_addAll imp_add (xe_var 4) xe_int))))
    (xs_one (xs_setF T.W_Triples T.I_Triples T.A_Triples_tables (pv 0) (of_new (xn_lc (own := [("step", 5)]) rfl nd (xi_seq (xe_tup (xa_cons (xe_un un_neg imp_neg xe_int) (xa_cons xe_int (xa_cons xe_int xa_nil))))) (blkOk_by (own := [("step", 5)]) (N := ["self", "told", "wide", "first", "last", "step"]) (sc := defScope s_Triples___init) (by decide +kernel)) (fun _ _ _ _ _ => (xg_nameW nd rfl (Or.inl rfl))) (fun _ _ _ _ _ => xts_nil) (fun _ _ _ _ _ => (of_new (xn_call (ban := 1000) takes0 G_neighbours_in (hr.mono (by decide)) (by rfl) T.M_neighbours_in T.F_neighbours_in.kp T.B_neighbours_in (xm_val (xe_ixR ix_seq imp_ix (xe_var 1) xe_int (fun _ _ => rfl)) (xm_val (xe_var 2) (xm_valR (xe_fldO T.W_Triples T.I_Triples T.A_Triples_looked (pv 0)) (xm_val (xe_var 5) xm_nil))))))))))))))
theorem ok_Triples_many_rows (T : Txt K mg cv A) : FnOk P w K mg base (L2.CX P w) 1 A.a_Triples_many_rows A.d_Triples_many_rows ["self"] (spP K cv false [false] f_Triples_many_rows) := by
  have nd := sc_Triples_many_rows.nd
  exact fn_pure (body := b_Triples_many_rows) [false] T.F_Triples_many_rows sc_Triples_many_rows f_Triples_many_rows rfl (by decide) rfl (fun cdv AA outer s H E hr => by
    have tk := takes_of (X := cxOf (L2.CX P w) P w K mg base ["self"] "Triples.many_rows" (defScope s_Triples_many_rows) A.a_Triples_many_rows cdv AA outer s H E) rfl rfl rfl rfl
    exact (xs_one (xs_ret (xe_callB call_lenAll imp_len (by rfl) T.Z_len bt_len (xa_cons (xe_ixR ix_seq imp_ix (xe_fld T.W_Triples T.I_Triples T.A_Triples_tables (xe_var 0)) xe_int (fun _ _ => rfl)) xa_nil)))))
theorem ok_Triples_are_shown (T : Txt K mg cv A) : FnOk P w K mg base (L2.CX P w) 2 A.a_Triples_are_shown A.d_Triples_are_shown ["self", "one", "two", "three", "due"] (spP K cv false [false, false, false, false, false] f_Triples_are_shown) := by
  have G_wall := ok_wall (P := P) (w := w) (base := base) (cv := cv) T
  have nd := sc_Triples_are_shown.nd
  exact fn_pure (body := b_Triples_are_shown) [false, false, false, false, false] T.F_Triples_are_shown sc_Triples_are_shown f_Triples_are_shown rfl (by decide) rfl (fun cdv AA outer s H E hr => by
    have tk := takes_of (X := cxOf (L2.CX P w) P w K mg base ["self", "one", "two", "three", "due"] "Triples.are_shown" (defScope s_Triples_are_shown) A.a_Triples_are_shown cdv AA outer s H E) rfl rfl rfl rfl
    exact (xs_one (xs_expr (xe_call (ban := 1000) tk G_wall (hr.mono (by decide)) (by rfl) T.M_wall T.F_wall.kp T.B_wall (xm_val xe_int xm_nil)))))
theorem ok_Triples_open_counts (T : Txt K mg cv A) : FnOk P w K mg base (L2.CX P w) 2 A.a_Triples_open_counts A.d_Triples_open_counts ["self", "side", "two", "due"] (spP K cv true [false, false, false, false] f_Triples_open_counts) := by
  have G_comes := ok_comes (P := P) (w := w) (base := base) (cv := cv) T
  have G_has_column := ok_has_column (P := P) (w := w) (base := base) (cv := cv) T
  have nd := sc_Triples_open_counts.nd
  exact fn_pure (body := b_Triples_open_counts) [false, false, false, false] T.F_Triples_open_counts sc_Triples_open_counts f_Triples_open_counts rfl (by decide) rfl (fun cdv AA outer s H E hr => by
    have tk := takes_of (X := cxOf (L2.CX P w) P w K mg base ["self", "side", "two", "due", "found", "k", "x", "beside", "goal", "alive", "count"] "Triples.open_counts" (defScope s_Triples_open_counts) A.a_Triples_open_counts cdv AA outer s H E) rfl rfl rfl rfl
    exact (xs_cons (xs_setO (i := 4) nd rfl (Or.inl rfl) (xn_lst xa_nil))
    (xs_cons (xs_for (passes_of rfl) rfl (xi_enum (by rfl) T.Z_enumerate (xe_fld T.W_Triples T.I_Triples T.A_Triples_looked (xe_var 0))) (xg_tup rfl (xgs_cons (xg_name nd rfl (Or.inl rfl)) (xgs_cons (xg_name nd rfl (Or.inl rfl)) xgs_nil)))
    (xs_cons (xs_set (i := 7) nd rfl (Or.inr rfl) (xe_op2R op_addAll imp_add (xe_ixR ix_seq imp_ix (xe_var 1) (xe_var 5) (fun _ _ => rfl)) (xe_ixR ix_seq imp_ix (xe_ixR ix_seq imp_ix (xe_ixR ix_seq imp_ix (xe_fld T.W_Triples T.I_Triples T.A_Triples_tables (xe_var 0)) xe_int (fun _ _ => rfl)) (xe_var 2) (fun _ _ => rfl)) (xe_var 5) (fun _ _ => rfl))))
    (xs_cons (xs_set (i := 8) nd rfl (Or.inr rfl) (xe_call (ban := 1000) tk G_has_column (hr.mono (by decide)) (by rfl) T.M_has_column T.F_has_column.kp T.B_has_column (xm_val (xe_var 3) (xm_val (xe_var 6) xm_nil))))
    (xs_cons (xs_set (i := 9) nd rfl (Or.inr rfl) (xe_call (ban := 1000) tk G_has_column (hr.mono (by decide)) (by rfl) T.M_has_column T.F_has_column.kp T.B_has_column (xm_val (xe_var 2) (xm_val (xe_var 6) xm_nil))))
    (xs_one (xs_append (i := 4) rfl (Or.inl rfl) (of_new (xn_lc (own := [("count", 10)]) rfl nd (xi_range1 (by rfl) T.Z_range xe_int) (blkOk_by (own := [("count", 10)]) (N := ["self", "side", "two", "due", "found", "k", "x", "beside", "goal", "alive", "count"]) (sc := defScope s_Triples_open_counts) (by decide +kernel)) (fun _ _ _ _ _ => (xg_nameW nd rfl (Or.inl rfl))) (fun _ _ _ _ _ => (xts_one (xt_cmp (op_eqD hr.units) imp_eq (xe_call (ban := 1000) takes0 G_comes (hr.mono (by decide)) (by rfl) T.M_comes T.F_comes.kp T.B_comes (xm_val (xe_fld T.W_Triples T.I_Triples T.A_Triples_by_rule (xe_var 0)) (xm_val (xe_var 9) (xm_val (xe_op2R op_addAll imp_add (xe_var 7) (xe_var 10)) xm_nil)))) (xe_var 8) (nomark _)))) (fun _ _ _ _ _ => (xe_var 10)))) (pe_bm PySem.F.plainAttrs_list PySem.F.slot_list_append PySem.F.type_list_append mt_append (pv 4) (pa_cons (of_new (xn_lc (own := [("count", 10)]) rfl nd (xi_range1 (by rfl) T.Z_range xe_int) (blkOk_by (own := [("count", 10)]) (N := ["self", "side", "two", "due", "found", "k", "x", "beside", "goal", "alive", "count"]) (sc := defScope s_Triples_open_counts) (by decide +kernel)) (fun _ _ _ _ _ => (xg_nameW nd rfl (Or.inl rfl))) (fun _ _ _ _ _ => (xts_one (xt_cmp (op_eqD hr.units) imp_eq (xe_call (ban := 1000) takes0 G_comes (hr.mono (by decide)) (by rfl) T.M_comes T.F_comes.kp T.B_comes (xm_val (xe_fld T.W_Triples T.I_Triples T.A_Triples_by_rule (xe_var 0)) (xm_val (xe_var 9) (xm_val (xe_op2R op_addAll imp_add (xe_var 7) (xe_var 10)) xm_nil)))) (xe_var 8) (nomark _)))) (fun _ _ _ _ _ => (xe_var 10)))) pa_nil))))))))
    (xs_one (xs_retN (xn_take 4))))))
theorem ok_Triples_fitting (T : Txt K mg cv A) : FnOk P w K mg base (L2.CX P w) 1 A.a_Triples_fitting A.d_Triples_fitting ["self", "table", "wanted"] (spP K cv true [false, false, false] f_Triples_fitting) := by
  have nd := sc_Triples_fitting.nd
  exact fn_pure (body := b_Triples_fitting) [false, false, false] T.F_Triples_fitting sc_Triples_fitting f_Triples_fitting rfl (by decide) rfl (fun cdv AA outer s H E hr => by
    have tk := takes_of (X := cxOf (L2.CX P w) P w K mg base ["self", "table", "wanted", "found", "row", "told", "count", "some"] "Triples.fitting" (defScope s_Triples_fitting) A.a_Triples_fitting cdv AA outer s H E) rfl rfl rfl rfl
    exact (xs_cons (xs_if (xt_cmp (op_inX (hu65 hr)) imp_inX (of_new (xn_lst xa_nil)) (xe_var 2) (by rfl))
    (xs_one (xs_retN (xn_lst xa_nil)))
    xs_nil)
    (xs_cons (xs_setO (i := 3) nd rfl (Or.inl rfl) (xn_lst xa_nil))
    (xs_cons (xs_for (passes_of rfl) rfl (xi_enum (by rfl) T.Z_enumerate (xe_var 1)) (xg_tup rfl (xgs_cons (xg_name nd rfl (Or.inl rfl)) (xgs_cons (xg_name nd rfl (Or.inl rfl)) xgs_nil)))
    (xs_one (xs_if (xt_val (xe_callB (cr_all rfl) imp_all (by rfl) T.Z_all bt_all (xa_cons (of_new (xn_lc (own := [("count", 6), ("some", 7)]) rfl nd (xi_zip (by rfl) T.Z_zip (xe_var 5) (xe_var 2)) (blkOk_by (own := [("count", 6), ("some", 7)]) (N := ["self", "table", "wanted", "found", "row", "told", "count", "some"]) (sc := defScope s_Triples_fitting) (by decide +kernel)) (fun _ _ _ _ _ => (xg_tup rfl (xgs_cons (xg_nameW nd rfl (Or.inl rfl)) (xgs_cons (xg_nameW nd rfl (Or.inl rfl)) xgs_nil)))) (fun _ _ _ _ _ => xts_nil) (fun _ _ _ _ _ => (xe_cmp (op_inX (hu65 hr)) imp_inX (xe_var 6) (xe_var 7) (by rfl))))) xa_nil)))
    (xs_one (xs_append (i := 3) rfl (Or.inl rfl) (xe_var 4) (pe_bm PySem.F.plainAttrs_list PySem.F.slot_list_append PySem.F.type_list_append mt_append (pv 3) (pa_cons (xe_var 4) pa_nil))))
    xs_nil)))
    (xs_one (xs_retN (xn_take 3)))))))
theorem ok_Triples_above (T : Txt K mg cv A) : FnOk P w K mg base (L2.CX P w) 3 A.a_Triples_above A.d_Triples_above ["self", "two", "three", "due"] (spP K cv true [false, false, false, false] f_Triples_above) := by
  have G_Triples_open_counts := ok_Triples_open_counts (P := P) (w := w) (base := base) (cv := cv) T
  have G_Triples_fitting := ok_Triples_fitting (P := P) (w := w) (base := base) (cv := cv) T
  have nd := sc_Triples_above.nd
  exact fn_pure (body := b_Triples_above) [false, false, false, false] T.F_Triples_above sc_Triples_above f_Triples_above rfl (by decide) rfl (fun cdv AA outer s H E hr => by
    have tk := takes_of (X := cxOf (L2.CX P w) P w K mg base ["self", "two", "three", "due"] "Triples.above" (defScope s_Triples_above) A.a_Triples_above cdv AA outer s H E) rfl rfl rfl rfl
    exact (xs_one (xs_retN (xn_meth (ban := 1000) T.W_Triples T.I_Triples T.H_Triples_fitting tk G_Triples_fitting (hr.mono (by decide)) T.B_Triples_fitting (xe_var 0) (xm_val (xe_ixR ix_seq imp_ix (xe_fld T.W_Triples T.I_Triples T.A_Triples_tables (xe_var 0)) xe_int (fun _ _ => rfl)) (xm_val (of_new (xn_meth (ban := 1000) T.W_Triples T.I_Triples T.H_Triples_open_counts tk G_Triples_open_counts (hr.mono (by decide)) T.B_Triples_open_counts (xe_var 0) (xm_val (xe_ixR ix_seq imp_ix (xe_ixR ix_seq imp_ix (xe_fld T.W_Triples T.I_Triples T.A_Triples_tables (xe_var 0)) xe_int (fun _ _ => rfl)) (xe_var 2) (fun _ _ => rfl)) (xm_val (xe_var 1) (xm_val (xe_var 3) xm_nil))))) xm_nil))))))
theorem ok_Triples_below (T : Txt K mg cv A) : FnOk P w K mg base (L2.CX P w) 3 A.a_Triples_below A.d_Triples_below ["self", "one", "two", "due"] (spP K cv true [false, false, false, false] f_Triples_below) := by
  have G_Triples_open_counts := ok_Triples_open_counts (P := P) (w := w) (base := base) (cv := cv) T
  have G_Triples_fitting := ok_Triples_fitting (P := P) (w := w) (base := base) (cv := cv) T
  have nd := sc_Triples_below.nd
  exact fn_pure (body := b_Triples_below) [false, false, false, false] T.F_Triples_below sc_Triples_below f_Triples_below rfl (by decide) rfl (fun cdv AA outer s H E hr => by
    have tk := takes_of (X := cxOf (L2.CX P w) P w K mg base ["self", "one", "two", "due"] "Triples.below" (defScope s_Triples_below) A.a_Triples_below cdv AA outer s H E) rfl rfl rfl rfl
    exact (xs_one (xs_retN (xn_meth (ban := 1000) T.W_Triples T.I_Triples T.H_Triples_fitting tk G_Triples_fitting (hr.mono (by decide)) T.B_Triples_fitting (xe_var 0) (xm_val (xe_ixR ix_seq imp_ix (xe_fld T.W_Triples T.I_Triples T.A_Triples_tables (xe_var 0)) xe_int (fun _ _ => rfl)) (xm_val (of_new (xn_meth (ban := 1000) T.W_Triples T.I_Triples T.H_Triples_open_counts tk G_Triples_open_counts (hr.mono (by decide)) T.B_Triples_open_counts (xe_var 0) (xm_val (xe_ixR ix_seq imp_ix (xe_ixR ix_seq imp_ix (xe_fld T.W_Triples T.I_Triples T.A_Triples_tables (xe_var 0)) xe_int (fun _ _ => rfl)) (xe_var 1) (fun _ _ => rfl)) (xm_val (xe_var 2) (xm_val (xe_var 3) xm_nil))))) xm_nil))))))
theorem ok_ask_father_box (T : Txt K mg cv A) : FnOk P w K mg base (L2.CX P w) 2 A.a_ask_father_box A.d_ask_father_box ["size", "live"] (spP K cv false [false, true] f_ask_father_box) := by
  have G_is_whole := ok_is_whole (P := P) (w := w) (base := base) (cv := cv) T
  have nd := sc_ask_father_box.nd
  exact fn_pure (body := b_ask_father_box) [false, true] T.F_ask_father_box sc_ask_father_box f_ask_father_box rfl (by decide) rfl (fun cdv AA outer s H E hr => by
    have tk := takes_of (X := cxOf (L2.CX P w) P w K mg base ["size", "live", "x", "y"] "ask_father_box" (defScope s_ask_father_box) A.a_ask_father_box cdv AA outer s H E) rfl rfl rfl rfl
    exact (xs_cons (xs_if (PW.pt (xw_or (xt_not (xt_val (xe_callB call_isi imp_isi (by rfl) T.Z_isinstance bt_isinstance (xa_cons (xe_var 0) (xa_cons (xe_ty (by rfl) T.Z_tuple bt_tuple) xa_nil))))) (xw_or (xt_cmp (op_neD hr.units) imp_ne (xe_callB call_lenAll imp_len (by rfl) T.Z_len bt_len (xa_cons (xe_var 0) xa_nil)) xe_int (nomark _)) (xw_or (xt_not (xt_val (xe_call (ban := 1000) tk G_is_whole (hr.mono (by decide)) (by rfl) T.M_is_whole T.F_is_whole.kp T.B_is_whole (xm_val (xe_ixR ix_seq imp_ix (xe_var 0) xe_int (fun _ _ => rfl)) xm_nil)))) (xw_or1 (xt_not (xt_val (xe_call (ban := 1000) tk G_is_whole (hr.mono (by decide)) (by rfl) T.M_is_whole T.F_is_whole.kp T.B_is_whole (xm_val (xe_ixR ix_seq imp_ix (xe_var 0) xe_int (fun _ _ => rfl)) xm_nil)))))))))
    (xs_one (xs_raise rfl tk T.T_NoSize T.N_NoSize (by rfl) T.V_NoSize))
    xs_nil)
    (xs_cons (xs_if (PW.pt (xw_or (xt_cmp (op_ltAll hr.units0) imp_lt (xe_ixR ix_seq imp_ix (xe_var 0) xe_int (fun _ _ => rfl)) xe_int (nomark _)) (xw_or (xt_cmp op_gt (imp_I0 fun _ _ _ => .bl _) (xe_ixR ix_seq imp_ix (xe_var 0) xe_int (fun _ _ => rfl)) (xe_num (by rfl) T.K_WIDEST) (nomark _)) (xw_or (xt_cmp (op_ltAll hr.units0) imp_lt (xe_ixR ix_seq imp_ix (xe_var 0) xe_int (fun _ _ => rfl)) xe_int (nomark _)) (xw_or1 (xt_cmp op_gt (imp_I0 fun _ _ _ => .bl _) (xe_ixR ix_seq imp_ix (xe_var 0) xe_int (fun _ _ => rfl)) (xe_num (by rfl) T.K_HIGHEST) (nomark _)))))))
    (xs_one (xs_raise rfl tk T.T_NoSize T.N_NoSize (by rfl) T.V_NoSize))
    xs_nil)
    (xs_cons (xs_if (xt_cmp op_gt (imp_I0 fun _ _ _ => .bl _) (xe_op2R op_mulA (imp_I fun _ _ _ => .int _) (xe_ixR ix_seq imp_ix (xe_var 0) xe_int (fun _ _ => rfl)) (xe_ixR ix_seq imp_ix (xe_var 0) xe_int (fun _ _ => rfl))) (xe_num (by rfl) T.K_MOST_CELLS) (nomark _))
    (xs_one (xs_raise rfl tk T.T_NoSize T.N_NoSize (by rfl) T.V_NoSize))
    xs_nil)
    (xs_one (xs_for (passes_of rfl) rfl (xi_own (pv 1)) (xg_tup rfl (xgs_cons (xg_name nd rfl (Or.inl rfl)) (xgs_cons (xg_name nd rfl (Or.inl rfl)) xgs_nil)))
    (xs_one (xs_if (PW.pt (xw_or (xt_cmp (op_ltAll hr.units0) imp_lt (xe_var 2) xe_int (nomark _)) (xw_or (xt_cmp op_ge (imp_I0 fun _ _ _ => .bl _) (xe_var 2) (xe_ixR ix_seq imp_ix (xe_var 0) xe_int (fun _ _ => rfl)) (nomark _)) (xw_or (xt_cmp (op_ltAll hr.units0) imp_lt (xe_var 3) xe_int (nomark _)) (xw_or1 (xt_cmp op_ge (imp_I0 fun _ _ _ => .bl _) (xe_var 3) (xe_ixR ix_seq imp_ix (xe_var 0) xe_int (fun _ _ => rfl)) (nomark _)))))))
    (xs_one (xs_raise rfl tk T.T_Outside T.N_Outside (by rfl) T.V_Outside))
    xs_nil))))))))
theorem ok_first_layer (T : Txt K mg cv A) : FnOk P w K mg base (L2.CX P w) 4 A.a_first_layer A.d_first_layer ["triples", "due"] (spP K cv true [false, false] f_first_layer) := by
  have G_Triples_many_rows := ok_Triples_many_rows (P := P) (w := w) (base := base) (cv := cv) T
  have G_Triples_above := ok_Triples_above (P := P) (w := w) (base := base) (cv := cv) T
  have nd := sc_first_layer.nd
  exact fn_pure (body := b_first_layer) [false, false] T.F_first_layer sc_first_layer f_first_layer rfl (by decide) rfl (fun cdv AA outer s H E hr => by
    have tk := takes_of (X := cxOf (L2.CX P w) P w K mg base ["triples", "due", "found", "two", "three", "some"] "first_layer" (defScope s_first_layer) A.a_first_layer cdv AA outer s H E) rfl rfl rfl rfl
    exact (xs_cons (xs_setO (i := 2) nd rfl (Or.inl rfl) xn_dnewT)
    (xs_cons (xs_for (passes_of rfl) rfl (xi_range1 (by rfl) T.Z_range (xe_meth0 T.W_Triples T.I_Triples T.H_Triples_many_rows tk G_Triples_many_rows (hr.mono (by decide)) T.B_Triples_many_rows (xe_var 0))) (xg_name nd rfl (Or.inl rfl))
    (xs_one (xs_for (passes_of rfl) rfl (xi_range1 (by rfl) T.Z_range (xe_meth0 T.W_Triples T.I_Triples T.H_Triples_many_rows tk G_Triples_many_rows (hr.mono (by decide)) T.B_Triples_many_rows (xe_var 0))) (xg_name nd rfl (Or.inl rfl))
    (xs_cons (xs_set (i := 5) nd rfl (Or.inl rfl) (of_new (xn_meth (ban := 1000) T.W_Triples T.I_Triples T.H_Triples_above tk G_Triples_above (hr.mono (by decide)) T.B_Triples_above (xe_var 0) (xm_val (xe_var 3) (xm_val (xe_var 4) (xm_val (xe_var 1) xm_nil))))))
    (xs_one (xs_if (xt_cmp (op_neD hr.units) imp_ne (xe_var 5) (of_new (xn_lst xa_nil)) (nomark _))
    (xs_one (xs_dput (i := 2) (hu1 hr) (pv 2) (xe_tup (xa_cons (xe_var 3) (xa_cons (xe_var 4) xa_nil))) (xe_ixR ix_seq imp_ix (xe_var 5) xe_int (fun _ _ => rfl))))
    xs_nil))))))
    (xs_one (xs_frz 2 (xs_retN (xn_take 2)))))))
theorem ok_next_layer (T : Txt K mg cv A) : FnOk P w K mg base (L2.CX P w) 4 A.a_next_layer A.d_next_layer ["triples", "layer", "due"] (spP K cv true [false, true, false] f_next_layer) := by
  have G_Triples_below := ok_Triples_below (P := P) (w := w) (base := base) (cv := cv) T
  have G_Triples_many_rows := ok_Triples_many_rows (P := P) (w := w) (base := base) (cv := cv) T
  have nd := sc_next_layer.nd
  exact fn_pure (body := b_next_layer) [false, true, false] T.F_next_layer sc_next_layer f_next_layer rfl (by decide) rfl (fun cdv AA outer s H E hr => by
    have tk := takes_of (X := cxOf (L2.CX P w) P w K mg base ["triples", "layer", "due", "found", "one", "two", "three"] "next_layer" (defScope s_next_layer) A.a_next_layer cdv AA outer s H E) rfl rfl rfl rfl
    exact (xs_cons (xs_setO (i := 3) nd rfl (Or.inl rfl) xn_dnewT)
    (xs_cons (xs_for (passes_of rfl) rfl (xi_any (pv 1)) (xg_tup rfl (xgs_cons (xg_name nd rfl (Or.inl rfl)) (xgs_cons (xg_name nd rfl (Or.inl rfl)) xgs_nil)))
    (xs_one (xs_if (PW.pt (xw_and (xt_chain op_le (imp_I0 fun _ _ _ => .bl _) (op_ltAll hr.units0) imp_lt xe_int (xe_var 4) (xe_meth0 T.W_Triples T.I_Triples T.H_Triples_many_rows tk G_Triples_many_rows (hr.mono (by decide)) T.B_Triples_many_rows (xe_var 0))) (xw_and1 (xt_chain op_le (imp_I0 fun _ _ _ => .bl _) (op_ltAll hr.units0) imp_lt xe_int (xe_var 5) (xe_meth0 T.W_Triples T.I_Triples T.H_Triples_many_rows tk G_Triples_many_rows (hr.mono (by decide)) T.B_Triples_many_rows (xe_var 0))))))
    (xs_one (xs_for (passes_of rfl) rfl (xi_seq (of_new (xn_meth (ban := 1000) T.W_Triples T.I_Triples T.H_Triples_below tk G_Triples_below (hr.mono (by decide)) T.B_Triples_below (xe_var 0) (xm_val (xe_var 4) (xm_val (xe_var 5) (xm_val (xe_var 2) xm_nil)))))) (xg_name nd rfl (Or.inl rfl))
    (xs_one (xs_dput (i := 3) (hu1 hr) (pv 3) (xe_tup (xa_cons (xe_var 5) (xa_cons (xe_var 6) xa_nil))) (xe_var 4)))))
    xs_nil)))
    (xs_one (xs_frz 3 (xs_retN (xn_take 3)))))))
theorem ok_rim_rows (T : Txt K mg cv A) : FnOk P w K mg base (L2.CX P w) 2 A.a_rim_rows A.d_rim_rows ["size", "live"] (spP K cv true [false, true] f_rim_rows) := by
  have G_rows_of := ok_rows_of (P := P) (w := w) (base := base) (cv := cv) T
  have nd := sc_rim_rows.nd
  exact fn_pure (body := b_rim_rows) [false, true] T.F_rim_rows sc_rim_rows f_rim_rows rfl (by decide) rfl (fun cdv AA outer s H E hr => by
    have tk := takes_of (X := cxOf (L2.CX P w) P w K mg base ["size", "live", "row"] "rim_rows" (defScope s_rim_rows) A.a_rim_rows cdv AA outer s H E) rfl rfl rfl rfl
    exact (xs_one (xs_retN (xn_lc (own := [("row", 2)]) rfl nd (xi_seq (of_new (xn_call (ban := 1000) tk G_rows_of (hr.mono (by decide)) (by rfl) T.M_rows_of T.F_rows_of.kp T.B_rows_of (xm_val (xe_var 0) (xm_own (j := 1) (pv 1) xm_nil))))) (blkOk_by (own := [("row", 2)]) (N := ["size", "live", "row"]) (sc := defScope s_rim_rows) (by decide +kernel)) (fun _ _ _ _ _ => (xg_nameW nd rfl (Or.inl rfl))) (fun _ _ _ _ _ => xts_nil) (fun _ _ _ _ _ => (xe_op2R op_mulA (imp_I fun _ _ _ => .int _) xe_int (xe_var 2)))))))
theorem ok_are_all_in (T : Txt K mg cv A) : FnOk P w K mg base (L2.CX P w) 1 A.a_are_all_in A.d_are_all_in ["layer", "some"] (spP K cv false [true, true] f_are_all_in) := by
  have nd := sc_are_all_in.nd
  exact fn_pure (body := b_are_all_in) [true, true] T.F_are_all_in sc_are_all_in f_are_all_in rfl (by decide) rfl (fun cdv AA outer s H E hr => by
    have tk := takes_of (X := cxOf (L2.CX P w) P w K mg base ["layer", "some", "known", "pair"] "are_all_in" (defScope s_are_all_in) A.a_are_all_in cdv AA outer s H E) rfl rfl rfl rfl
    exact (xs_cons (xs_setO (i := 2) nd rfl (Or.inr rfl) xn_dnewT)
    (xs_cons (xs_for (passes_of rfl) rfl (xi_own (pv 1)) (xg_name nd rfl (Or.inl rfl))
    (xs_one (xs_dput (i := 2) (hu1 hr) (pv 2) (xe_var 3) xe_bl)))
    (xs_one (xs_ret (xe_callB (cr_all rfl) imp_all (by rfl) T.Z_all bt_all (xa_cons (of_new (xn_lc (own := [("pair", 3)]) rfl nd (xi_keys (pv 0)) (blkOk_by (own := [("pair", 3)]) (N := ["layer", "some", "known", "pair"]) (sc := defScope s_are_all_in) (by decide +kernel)) (fun _ _ _ _ _ => (xg_nameW nd rfl (Or.inl rfl))) (fun _ _ _ _ _ => xts_nil) (fun _ _ _ _ _ => (xe_cmpO (op_inX (hu65 hr)) imp_inX (xe_var 3) (pv 2) (by rfl))))) xa_nil)))))))
theorem ok_holds_none (T : Txt K mg cv A) : FnOk P w K mg base (L2.CX P w) 6 A.a_holds_none A.d_holds_none ["told", "size", "live", "lists"] (spP K cv false [false, false, true, false] f_holds_none) := by
  have G_Triples___init := ok_Triples___init (P := P) (w := w) (base := base) (cv := cv) T
  have G_ask_father_box := ok_ask_father_box (P := P) (w := w) (base := base) (cv := cv) T
  have G_first_layer := ok_first_layer (P := P) (w := w) (base := base) (cv := cv) T
  have G_next_layer := ok_next_layer (P := P) (w := w) (base := base) (cv := cv) T
  have G_rim_rows := ok_rim_rows (P := P) (w := w) (base := base) (cv := cv) T
  have G_are_all_in := ok_are_all_in (P := P) (w := w) (base := base) (cv := cv) T
  have nd := sc_holds_none.nd
  exact fn_pure (body := b_holds_none) [false, false, true, false] T.F_holds_none sc_holds_none f_holds_none rfl (by decide) rfl (fun cdv AA outer s H E hr => by
    have tk := takes_of (X := cxOf (L2.CX P w) P w K mg base ["told", "size", "live", "lists", "triples", "rows", "k"] "holds_none" (defScope s_holds_none) A.a_holds_none cdv AA outer s H E) rfl rfl rfl rfl
    exact (xs_cons (xs_expr (xe_call (ban := 1000) tk G_ask_father_box (hr.mono (by decide)) (by rfl) T.M_ask_father_box T.F_ask_father_box.kp T.B_ask_father_box (xm_val (xe_var 1) (xm_own (j := 2) (pv 2) xm_nil))))
    (xs_cons (xs_if (PW.pt (xw_or (xt_cmp (op_neD hr.units) imp_ne (xe_callB call_lenAll imp_len (by rfl) T.Z_len bt_len (xa_cons (xe_var 3) xa_nil)) (xe_ixR ix_seq imp_ix (xe_var 1) xe_int (fun _ _ => rfl)) (nomark _)) (xw_or1 (xt_cmp (op_neD hr.units) imp_ne (xe_ixR ix_seq imp_ix (xe_var 3) (xe_un un_neg imp_neg xe_int) (fun _ _ => rfl)) (of_new (xn_lst xa_nil)) (nomark _)))))
    (xs_one (xs_ret xe_bl))
    xs_nil)
    (xs_cons (xs_set (i := 4) nd rfl (Or.inl rfl) (of_new (xn_make (ban := 1000) T.W_Triples T.J_Triples tk G_Triples___init (hr.mono (by decide)) (by rfl) T.N_Triples T.B_Triples___init (xm_val (xe_var 0) (xm_val (xe_op2R op_addAll imp_add (xe_ixR ix_seq imp_ix (xe_var 1) xe_int (fun _ _ => rfl)) xe_int) (xm_val xe_int (xm_val (xe_ixR ix_seq imp_ix (xe_var 1) xe_int (fun _ _ => rfl)) xm_nil)))))))
    (xs_cons (xs_set (i := 5) nd rfl (Or.inl rfl) (of_new (xn_call (ban := 1000) tk G_rim_rows (hr.mono (by decide)) (by rfl) T.M_rim_rows T.F_rim_rows.kp T.B_rim_rows (xm_val (xe_var 1) (xm_own (j := 2) (pv 2) xm_nil)))))
    (xs_cons (xs_if (xt_not (xt_val (xe_call (ban := 1000) tk G_are_all_in (hr.mono (by decide)) (by rfl) T.M_are_all_in T.F_are_all_in.kp T.B_are_all_in (xm_valR (of_new (xn_call (ban := 1000) tk G_first_layer (hr.mono (by decide)) (by rfl) T.M_first_layer T.F_first_layer.kp T.B_first_layer (xm_val (xe_var 4) (xm_val (xe_ixR ix_seq imp_ix (xe_var 5) xe_int (fun _ _ => rfl)) xm_nil)))) (xm_valR (xe_ixR ix_seq imp_ix (xe_var 3) xe_int (fun _ _ => rfl)) xm_nil)))))
    (xs_one (xs_ret xe_bl))
    xs_nil)
    (xs_cons (xs_for (passes_of rfl) rfl (xi_range2 (by rfl) T.Z_range xe_int (xe_ixR ix_seq imp_ix (xe_var 1) xe_int (fun _ _ => rfl))) (xg_name nd rfl (Or.inl rfl))
    (xs_one (xs_if (xt_not (xt_val (xe_call (ban := 1000) tk G_are_all_in (hr.mono (by decide)) (by rfl) T.M_are_all_in T.F_are_all_in.kp T.B_are_all_in (xm_valR (of_new (xn_call (ban := 1000) tk G_next_layer (hr.mono (by decide)) (by rfl) T.M_next_layer T.F_next_layer.kp T.B_next_layer (xm_val (xe_var 4) (xm_valR (xe_ixR ix_seq imp_ix (xe_var 3) (xe_op2R op_sub (imp_I0 fun _ _ _ => .int _) (xe_var 6) xe_int) (fun _ _ => rfl)) (xm_val (xe_ixR ix_seq imp_ix (xe_var 5) (xe_var 6) (fun _ _ => rfl)) xm_nil))))) (xm_valR (xe_ixR ix_seq imp_ix (xe_var 3) (xe_var 6) (fun _ _ => rfl)) xm_nil)))))
    (xs_one (xs_ret xe_bl))
    xs_nil)))
    (xs_one (xs_ret xe_bl)))))))))
theorem ok_law_pen (T : Txt K mg cv A) : FnOk P w K mg base (L2.CX P w) 1 A.a_law_pen A.d_law_pen ["_law_script", "_law_k"] (spP K cv true [false, false] f_law_pen) := by
  have nd := sc_law_pen.nd
  exact fn_pure (body := b_law_pen) [false, false] T.F_law_pen sc_law_pen f_law_pen rfl (by decide) rfl (fun cdv AA outer s H E hr => by
    have tk := takes_of (X := cxOf (L2.CX P w) P w K mg base ["_law_script", "_law_k", "_law_cell"] "_law_pen" (defScope s_law_pen) A.a_law_pen cdv AA outer s H E) rfl rfl rfl rfl
    exact (xs_cons (xs_set (i := 2) nd rfl (Or.inl rfl) (xe_op2R op_addAll imp_add (xe_op2R op_mulA (imp_I fun _ _ _ => .int _) xe_int (xe_var 1)) xe_int))
    (xs_cons (xs_if (xt_cmp (op_ltAll hr.units0) imp_lt (xe_var 1) (xe_callB call_lenAll imp_len (by rfl) T.Z_len bt_len (xa_cons (xe_var 0) xa_nil)) (nomark _))
    (xs_one (xs_set (i := 2) nd rfl (Or.inl rfl) (xe_ixR ix_seq imp_ix (xe_var 0) (xe_var 1) (fun _ _ => rfl))))
    (xs_one (xs_if (xt_cmp op_gt (imp_I0 fun _ _ _ => .bl _) (xe_callB call_lenAll imp_len (by rfl) T.Z_len bt_len (xa_cons (xe_var 0) xa_nil)) xe_int (nomark _))
    (xs_one (xs_set (i := 2) nd rfl (Or.inl rfl) (xe_op2R op_addAll imp_add (xe_op2R op_mod (imp_I fun _ _ _ => .int _) (xe_ixR ix_seq imp_ix (xe_var 0) (xe_op2R op_mod (imp_I fun _ _ _ => .int _) (xe_var 1) (xe_callB call_lenAll imp_len (by rfl) T.Z_len bt_len (xa_cons (xe_var 0) xa_nil))) (fun _ _ => rfl)) xe_int) (xe_op2R op_mulA (imp_I fun _ _ _ => .int _) xe_int (xe_var 1)))))
    xs_nil)))
    (xs_cons (xs_if (xt_cmp op_ge (imp_I0 fun _ _ _ => .bl _) (xe_var 2) (xe_op2R op_pow (imp_I fun _ _ _ => .int _) xe_int xe_int) (nomark _))
    (xs_one (xs_retN (xn_lst (xa_cons (xe_op2R op_sub (imp_I0 fun _ _ _ => .int _) (xe_var 2) (xe_op2R op_pow (imp_I fun _ _ _ => .int _) xe_int xe_int)) (xa_cons (xe_op2R op_mod (imp_I fun _ _ _ => .int _) (xe_var 2) xe_int) (xa_cons xe_int xa_nil))))))
    xs_nil)
    (xs_one (xs_retN (xn_lst (xa_cons xe_int (xa_cons (xe_op2R op_mod (imp_I fun _ _ _ => .int _) (xe_var 2) xe_int) (xa_cons xe_int xa_nil))))))))))
theorem ok_law_draw (T : Txt K mg cv A) : FnOk P w K mg base (L2.CX P w) 1 A.a_law_draw A.d_law_draw ["_law_pen_here", "_law_many"] (spB K cv false [false] f_law_draw) := by
  have nd := sc_law_draw.nd
  exact fn_bor (body := b_law_draw) [false] T.F_law_draw sc_law_draw f_law_draw rfl (by decide) rfl (fun cdv AA outer s H E hr => by
    have tk := takes_of (X := cxOf (L2.CX P w) P w K mg base ["_law_pen_here", "_law_many", "_law_drawn", "_law_number"] "_law_draw" (defScope s_law_draw) A.a_law_draw cdv AA outer s H E) rfl rfl rfl rfl
    exact (xs_cons (xs_setIx (i := 0) rfl (Or.inl rfl) (pv 0) xe_int (xe_op2R op_addAll imp_add (xe_ixO (pv 0) xe_int (fun _ _ => rfl)) xe_int))
    (xs_cons (xs_if (xt_cmp op_gt (imp_I0 fun _ _ _ => .bl _) (xe_ixO (pv 0) xe_int (fun _ _ => rfl)) xe_int (nomark _))
    (xs_cons (xs_set (i := 2) nd rfl (Or.inl rfl) (xe_op2R op_mod (imp_I fun _ _ _ => .int _) (xe_ixO (pv 0) xe_int (fun _ _ => rfl)) (xe_var 1)))
    (xs_cons (xs_setIx (i := 0) rfl (Or.inl rfl) (pv 0) xe_int (xe_op2R op_fdivW (imp_I fun _ _ _ => .int _) (xe_ixO (pv 0) xe_int (fun _ _ => rfl)) (xe_var 1)))
    (xs_one (xs_ret (xe_var 2)))))
    xs_nil)
    (xs_cons (xs_set (i := 3) nd rfl (Or.inl rfl) (xe_op2R op_mod (imp_I fun _ _ _ => .int _) (xe_op2R op_addAll imp_add (xe_op2R op_addAll imp_add (xe_ixO (pv 0) xe_int (fun _ _ => rfl)) (xe_op2R op_mulA (imp_I fun _ _ _ => .int _) xe_int (xe_ixO (pv 0) xe_int (fun _ _ => rfl)))) xe_int) xe_int))
    (xs_cons (xs_set (i := 3) nd rfl (Or.inl rfl) (xe_op2R op_addAll imp_add (xe_op2R op_mod (imp_I fun _ _ _ => .int _) (xe_op2R op_mulA (imp_I fun _ _ _ => .int _) (xe_var 3) (xe_var 3)) xe_int) (xe_op2R op_mulA (imp_I fun _ _ _ => .int _) xe_int (xe_ixO (pv 0) xe_int (fun _ _ => rfl)))))
    (xs_cons (xs_set (i := 3) nd rfl (Or.inl rfl) (xe_op2R op_mod (imp_I fun _ _ _ => .int _) (xe_op2R op_mulA (imp_I fun _ _ _ => .int _) (xe_var 3) (xe_var 3)) xe_int))
    (xs_one (xs_ret (xe_op2R op_mod (imp_I fun _ _ _ => .int _) (xe_op2R op_fdivW (imp_I fun _ _ _ => .int _) (xe_var 3) xe_int) (xe_var 1))))))))))
theorem ok_law_some (T : Txt K mg cv A) : FnOk P w K mg base (L2.CX P w) 2 A.a_law_some A.d_law_some ["_law_pen_here", "_law_kind"] (spB K cv false [false] f_law_some) := by
  have G_law_draw := ok_law_draw (P := P) (w := w) (base := base) (cv := cv) T
  have nd := sc_law_some.nd
  exact fn_bor (body := b_law_some) [false] T.F_law_some sc_law_some f_law_some rfl (by decide) rfl (fun cdv AA outer s H E hr => by
    have tk := takes_of (X := cxOf (L2.CX P w) P w K mg base ["_law_pen_here", "_law_kind", "_law_way", "_law_thick", "_law_count"] "_law_some" (defScope s_law_some) A.a_law_some cdv AA outer s H E) rfl rfl rfl rfl
    exact (xs_cons (xs_set (i := 2) nd rfl (Or.inl rfl) (xe_callBor tk G_law_draw (hr.mono (by decide)) (by rfl) T.M_law_draw T.F_law_draw.kp T.B_law_draw (pv 0) (xm_val xe_int xm_nil)))
    (xs_cons (xs_if (xt_cmp (op_eqD hr.units) imp_eq (xe_var 2) xe_int (nomark _))
    (xs_one (xs_ret (xe_tup xa_nil)))
    xs_nil)
    (xs_cons (xs_if (xt_cmp (op_eqD hr.units) imp_eq (xe_var 2) xe_int (nomark _))
    (xs_one (xs_ret (xe_tup (xa_cons (xe_ixR ix_seq imp_ix (of_new (xn_lst (xa_cons (xe_var 1) (xa_cons xe_int (xa_cons (xe_callBor tk G_law_draw (hr.mono (by decide)) (by rfl) T.M_law_draw T.F_law_draw.kp T.B_law_draw (pv 0) (xm_val (xe_op2R op_addAll imp_add (xe_var 1) xe_int) xm_nil)) xa_nil))))) (xe_callBor tk G_law_draw (hr.mono (by decide)) (by rfl) T.M_law_draw T.F_law_draw.kp T.B_law_draw (pv 0) (xm_val xe_int xm_nil)) (fun _ _ => rfl)) xa_nil))))
    xs_nil)
    (xs_cons (xs_set (i := 3) nd rfl (Or.inr rfl) (xe_var 2))
    (xs_one (xs_ret (xe_callT call_tuple_of imp_tuple (by rfl) T.Z_tuple bt_tuple (xa_cons (of_new (xn_lc (own := [("_law_count", 4)]) rfl nd (xi_range1 (by rfl) T.Z_range (xe_op2R op_addAll imp_add (xe_var 1) xe_int)) (blkOk_by (own := [("_law_count", 4)]) (N := ["_law_pen_here", "_law_kind", "_law_way", "_law_thick", "_law_count"]) (sc := defScope s_law_some) (by decide +kernel)) (fun _ _ _ _ _ => (xg_nameW nd rfl (Or.inl rfl))) (fun _ _ _ _ _ => (xts_one (xt_cmp (op_eqD hr.units) imp_eq (xe_callBor takes0 G_law_draw (hr.mono (by decide)) (by rfl) T.M_law_draw T.F_law_draw.kp T.B_law_draw (pv 0) (xm_val (xe_var 3) xm_nil)) xe_int (nomark _)))) (fun _ _ _ _ _ => (xe_var 4)))) xa_nil)))))))))
theorem ok_law_rule (T : Txt K mg cv A) : FnOk P w K mg base (L2.CX P w) 3 A.a_law_rule A.d_law_rule ["_law_pen_here"] (spB K cv false [] f_law_rule) := by
  have G_law_draw := ok_law_draw (P := P) (w := w) (base := base) (cv := cv) T
  have G_law_some := ok_law_some (P := P) (w := w) (base := base) (cv := cv) T
  have nd := sc_law_rule.nd
  exact fn_bor (body := b_law_rule) [] T.F_law_rule sc_law_rule f_law_rule rfl (by decide) rfl (fun cdv AA outer s H E hr => by
    have tk := takes_of (X := cxOf (L2.CX P w) P w K mg base ["_law_pen_here", "_law_kind"] "_law_rule" (defScope s_law_rule) A.a_law_rule cdv AA outer s H E) rfl rfl rfl rfl
    exact (xs_cons (xs_set (i := 1) nd rfl (Or.inl rfl) (xe_ixR ix_seq imp_ix (of_new (xn_lst (xa_cons xe_int (xa_cons xe_int (xa_cons xe_int xa_nil))))) (xe_callBor tk G_law_draw (hr.mono (by decide)) (by rfl) T.M_law_draw T.F_law_draw.kp T.B_law_draw (pv 0) (xm_val xe_int xm_nil)) (fun _ _ => rfl)))
    (xs_one (xs_ret (xe_tup (xa_cons (xe_var 1) (xa_cons (xe_callBor tk G_law_some (hr.mono (by decide)) (by rfl) T.M_law_some T.F_law_some.kp T.B_law_some (pv 0) (xm_val (xe_var 1) xm_nil)) (xa_cons (xe_callBor tk G_law_some (hr.mono (by decide)) (by rfl) T.M_law_some T.F_law_some.kp T.B_law_some (pv 0) (xm_val (xe_var 1) xm_nil)) xa_nil))))))))
theorem ok_law_near (T : Txt K mg cv A) : FnOk P w K mg base (L2.CX P w) 1 A.a_law_near A.d_law_near ["_law_kind"] (spP K cv false [false] f_law_near) := by
  have nd := sc_law_near.nd
  exact fn_pure (body := b_law_near) [false] T.F_law_near sc_law_near f_law_near rfl (by decide) rfl (fun cdv AA outer s H E hr => by
    have tk := takes_of (X := cxOf (L2.CX P w) P w K mg base ["_law_kind", "_law_steps"] "_law_near" (defScope s_law_near) A.a_law_near cdv AA outer s H E) rfl rfl rfl rfl
    exact (xs_cons (xs_set (i := 1) nd rfl (Or.inl rfl) (of_new (xn_lst (xa_cons (xe_tup (xa_cons (xe_un un_neg imp_neg xe_int) (xa_cons xe_int xa_nil))) (xa_cons (xe_tup (xa_cons xe_int (xa_cons (xe_un un_neg imp_neg xe_int) xa_nil))) (xa_cons (xe_tup (xa_cons xe_int (xa_cons xe_int xa_nil))) (xa_cons (xe_tup (xa_cons xe_int (xa_cons xe_int xa_nil))) xa_nil)))))))
    (xs_cons (xs_if (xt_cmp op_gt (imp_I0 fun _ _ _ => .bl _) (xe_var 0) xe_int (nomark _))
    (xs_one (xs_set (i := 1) nd rfl (Or.inl rfl) (xe_op2R op_addAll imp_add (xe_var 1) (of_new (xn_lst (xa_cons (xe_tup (xa_cons (xe_un un_neg imp_neg xe_int) (xa_cons (xe_un un_neg imp_neg xe_int) xa_nil))) (xa_cons (xe_tup (xa_cons xe_int (xa_cons xe_int xa_nil))) xa_nil)))))))
    xs_nil)
    (xs_cons (xs_if (xt_cmp op_gt (imp_I0 fun _ _ _ => .bl _) (xe_var 0) xe_int (nomark _))
    (xs_one (xs_set (i := 1) nd rfl (Or.inl rfl) (xe_op2R op_addAll imp_add (xe_var 1) (of_new (xn_lst (xa_cons (xe_tup (xa_cons (xe_un un_neg imp_neg xe_int) (xa_cons xe_int xa_nil))) (xa_cons (xe_tup (xa_cons xe_int (xa_cons (xe_un un_neg imp_neg xe_int) xa_nil))) xa_nil)))))))
    xs_nil)
    (xs_one (xs_ret (xe_var 1)))))))
theorem ok_law_table (T : Txt K mg cv A) : FnOk P w K mg base (L2.CX P w) 2 A.a_law_table A.d_law_table ["_law_code", "_law_wide", "_law_dy"] (spP K cv true [false, false, false] f_law_table) := by
  have G_law_near := ok_law_near (P := P) (w := w) (base := base) (cv := cv) T
  have nd := sc_law_table.nd
  exact fn_pure (body := b_law_table) [false, false, false] T.F_law_table sc_law_table f_law_table rfl (by decide) rfl (fun cdv AA outer s H E hr => by
    have tk := takes_of (X := cxOf (L2.CX P w) P w K mg base ["_law_code", "_law_wide", "_law_dy", "_law_steps", "_law_dx", "_law_other", "_law_found", "_law_row", "_law_x"] "_law_table" (defScope s_law_table) A.a_law_table cdv AA outer s H E) rfl rfl rfl rfl
    exact (xs_cons (xs_set (i := 3) nd rfl (Or.inr rfl) (of_new (xn_lc (own := [("_law_dx", 4), ("_law_other", 5)]) rfl nd (xi_seq (xe_call (ban := 1000) tk G_law_near (hr.mono (by decide)) (by rfl) T.M_law_near T.F_law_near.kp T.B_law_near (xm_val (xe_ixR ix_seq imp_ix (xe_var 0) xe_int (fun _ _ => rfl)) xm_nil))) (blkOk_by (own := [("_law_dx", 4), ("_law_other", 5)]) (N := ["_law_code", "_law_wide", "_law_dy", "_law_steps", "_law_dx", "_law_other", "_law_found", "_law_row", "_law_x"]) (sc := defScope s_law_table) (by decide +kernel)) (fun _ _ _ _ _ => (xg_tup rfl (xgs_cons (xg_nameW nd rfl (Or.inl rfl)) (xgs_cons (xg_nameW nd rfl (Or.inl rfl)) xgs_nil)))) (fun _ _ _ _ _ => (xts_one (xt_cmp (op_eqD hr.units) imp_eq (xe_var 5) (xe_var 2) (nomark _)))) (fun _ _ _ _ _ => (xe_var 4)))))
    (xs_cons (xs_setO (i := 6) nd rfl (Or.inl rfl) (xn_lst xa_nil))
    (xs_cons (xs_for (passes_of rfl) rfl (xi_range1 (by rfl) T.Z_range (xe_op2R op_shl (imp_I fun _ _ _ => .int _) xe_int (xe_op2R op_addAll imp_add (xe_var 1) xe_int))) (xg_name nd rfl (Or.inr rfl))
    (xs_one (xs_append (i := 6) rfl (Or.inl rfl) (of_new (xn_lc (own := [("_law_x", 8)]) rfl nd (xi_range1 (by rfl) T.Z_range (xe_var 1)) (blkOk_by (own := [("_law_x", 8)]) (N := ["_law_code", "_law_wide", "_law_dy", "_law_steps", "_law_dx", "_law_other", "_law_found", "_law_row", "_law_x"]) (sc := defScope s_law_table) (by decide +kernel)) (fun _ _ _ _ _ => (xg_nameW nd rfl (Or.inr rfl))) (fun _ _ _ _ _ => xts_nil) (fun _ _ _ _ _ => (xe_callB call_lenAll imp_len (by rfl) T.Z_len bt_len (xa_cons (of_new (xn_lc (own := [("_law_dx", 4)]) rfl nd (xi_seq (xe_var 3)) (blkOk_by (own := [("_law_dx", 4)]) (N := ["_law_code", "_law_wide", "_law_dy", "_law_steps", "_law_dx", "_law_other", "_law_found", "_law_row", "_law_x"]) (by kernel_rfl)) (fun _ _ _ _ _ => (xg_nameW nd rfl (Or.inl rfl))) (fun _ _ _ _ _ => (xts_one (xt_cmp (op_eqD hr.units) imp_eq (xe_op2R op_and (imp_I0 fun _ _ _ => .int _) (xe_op2R op_shr (imp_I fun _ _ _ => .int _) (xe_var 7) (xe_op2R op_addAll imp_add (xe_op2R op_addAll imp_add (xe_var 8) xe_int) (xe_var 4))) xe_int) xe_int (nomark _)))) (fun _ _ _ _ _ => (xe_var 4)))) xa_nil))))) (pe_bm PySem.F.plainAttrs_list PySem.F.slot_list_append PySem.F.type_list_append mt_append (pv 6) (pa_cons (of_new (xn_lc (own := [("_law_x", 8)]) rfl nd (xi_range1 (by rfl) T.Z_range (xe_var 1)) (blkOk_by (own := [("_law_x", 8)]) (N := ["_law_code", "_law_wide", "_law_dy", "_law_steps", "_law_dx", "_law_other", "_law_found", "_law_row", "_law_x"]) (sc := defScope s_law_table) (by decide +kernel)) (fun _ _ _ _ _ => (xg_nameW nd rfl (Or.inr rfl))) (fun _ _ _ _ _ => xts_nil) (fun _ _ _ _ _ => (xe_callB call_lenAll imp_len (by rfl) T.Z_len bt_len (xa_cons (of_new (xn_lc (own := [("_law_dx", 4)]) rfl nd (xi_seq (xe_var 3)) (blkOk_by (own := [("_law_dx", 4)]) (N := ["_law_code", "_law_wide", "_law_dy", "_law_steps", "_law_dx", "_law_other", "_law_found", "_law_row", "_law_x"]) (by kernel_rfl)) (fun _ _ _ _ _ => (xg_nameW nd rfl (Or.inl rfl))) (fun _ _ _ _ _ => (xts_one (xt_cmp (op_eqD hr.units) imp_eq (xe_op2R op_and (imp_I0 fun _ _ _ => .int _) (xe_op2R op_shr (imp_I fun _ _ _ => .int _) (xe_var 7) (xe_op2R op_addAll imp_add (xe_op2R op_addAll imp_add (xe_var 8) xe_int) (xe_var 4))) xe_int) xe_int (nomark _)))) (fun _ _ _ _ _ => (xe_var 4)))) xa_nil))))) pa_nil)))))
    (xs_one (xs_retN (xn_take 6)))))))
theorem ok_law_allowed (T : Txt K mg cv A) : FnOk P w K mg base (L2.CX P w) 1 A.a_law_allowed A.d_law_allowed ["_law_code", "_law_tables", "_law_pair", "_law_x", "_law_due"] (spP K cv true [false, false, false, false, false] f_law_allowed) := by
  have nd := sc_law_allowed.nd
  exact fn_pure (body := b_law_allowed) [false, false, false, false, false] T.F_law_allowed sc_law_allowed f_law_allowed rfl (by decide) rfl (fun cdv AA outer s H E hr => by
    have tk := takes_of (X := cxOf (L2.CX P w) P w K mg base ["_law_code", "_law_tables", "_law_pair", "_law_x", "_law_due", "_law_base", "_law_some_here", "_law_more"] "_law_allowed" (defScope s_law_allowed) A.a_law_allowed cdv AA outer s H E) rfl rfl rfl rfl
    exact (xs_cons (xs_set (i := 5) nd rfl (Or.inr rfl) (xe_op2R op_addAll imp_add (xe_ixR ix_seq imp_ix (xe_ixR ix_seq imp_ix (xe_ixR ix_seq imp_ix (xe_var 1) xe_int (fun _ _ => rfl)) (xe_ixR ix_seq imp_ix (xe_var 2) xe_int (fun _ _ => rfl)) (fun _ _ => rfl)) (xe_var 3) (fun _ _ => rfl)) (xe_ixR ix_seq imp_ix (xe_ixR ix_seq imp_ix (xe_ixR ix_seq imp_ix (xe_var 1) xe_int (fun _ _ => rfl)) (xe_ixR ix_seq imp_ix (xe_var 2) xe_int (fun _ _ => rfl)) (fun _ _ => rfl)) (xe_var 3) (fun _ _ => rfl))))
    (xs_cons (xs_set (i := 6) nd rfl (Or.inr rfl) (xe_ixR ix_seq imp_ix (xe_var 0) xe_int (fun _ _ => rfl)))
    (xs_cons (xs_if (xt_cmp (op_eqD hr.units) imp_eq (xe_op2R op_and (imp_I0 fun _ _ _ => .int _) (xe_op2R op_shr (imp_I fun _ _ _ => .int _) (xe_ixR ix_seq imp_ix (xe_var 2) xe_int (fun _ _ => rfl)) (xe_op2R op_addAll imp_add (xe_var 3) xe_int)) xe_int) xe_int (nomark _))
    (xs_one (xs_set (i := 6) nd rfl (Or.inr rfl) (xe_ixR ix_seq imp_ix (xe_var 0) xe_int (fun _ _ => rfl))))
    xs_nil)
    (xs_one (xs_retN (xn_lc (own := [("_law_more", 7)]) rfl nd (xi_range1 (by rfl) T.Z_range xe_int) (blkOk_by (own := [("_law_more", 7)]) (N := ["_law_code", "_law_tables", "_law_pair", "_law_x", "_law_due", "_law_base", "_law_some_here", "_law_more"]) (sc := defScope s_law_allowed) (by decide +kernel)) (fun _ _ _ _ _ => (xg_nameW nd rfl (Or.inl rfl))) (fun _ _ _ _ _ => (xts_one (xt_cmp (op_eqD hr.units) imp_eq (xe_cmp (op_inX (hu65 hr)) imp_inX (xe_op2R op_addAll imp_add (xe_var 5) (xe_var 7)) (xe_var 6) (by rfl)) (xe_var 4) (nomark _)))) (fun _ _ _ _ _ => (xe_var 7)))))))))
theorem ok_law_below (T : Txt K mg cv A) : FnOk P w K mg base (L2.CX P w) 2 A.a_law_below A.d_law_below ["_law_code", "_law_tables", "_law_pairs", "_law_due"] (spP K cv true [false, false, false, false] f_law_below) := by
  have G_law_allowed := ok_law_allowed (P := P) (w := w) (base := base) (cv := cv) T
  have nd := sc_law_below.nd
  exact fn_pure (body := b_law_below) [false, false, false, false] T.F_law_below sc_law_below f_law_below rfl (by decide) rfl (fun cdv AA outer s H E hr => by
    have tk := takes_of (X := cxOf (L2.CX P w) P w K mg base ["_law_code", "_law_tables", "_law_pairs", "_law_due", "_law_many", "_law_found", "_law_one", "_law_two", "_law_allowed_here", "_law_three", "_law_x"] "_law_below" (defScope s_law_below) A.a_law_below cdv AA outer s H E) rfl rfl rfl rfl
    exact (xs_cons (xs_set (i := 4) nd rfl (Or.inl rfl) (xe_callB call_lenAll imp_len (by rfl) T.Z_len bt_len (xa_cons (xe_ixR ix_seq imp_ix (xe_var 1) xe_int (fun _ _ => rfl)) xa_nil)))
    (xs_cons (xs_setO (i := 5) nd rfl (Or.inl rfl) xn_dnewT)
    (xs_cons (xs_for (passes_of rfl) rfl (xi_seq (xe_var 2)) (xg_tup rfl (xgs_cons (xg_name nd rfl (Or.inr rfl)) (xgs_cons (xg_name nd rfl (Or.inr rfl)) xgs_nil)))
    (xs_cons (xs_set (i := 8) nd rfl (Or.inr rfl) (of_new (xn_lst (xa_cons (of_new (xn_lst xa_nil)) xa_nil))))
    (xs_cons (xs_if (PW.pt (xw_and (xt_chain op_le (imp_I0 fun _ _ _ => .bl _) (op_ltAll hr.units0) imp_lt xe_int (xe_var 6) (xe_var 4)) (xw_and1 (xt_chain op_le (imp_I0 fun _ _ _ => .bl _) (op_ltAll hr.units0) imp_lt xe_int (xe_var 7) (xe_var 4)))))
    (xs_one (xs_set (i := 8) nd rfl (Or.inr rfl) (of_new (xn_lc (own := [("_law_x", 10)]) rfl nd (xi_range1 (by rfl) T.Z_range (xe_callB call_lenAll imp_len (by rfl) T.Z_len bt_len (xa_cons (xe_var 3) xa_nil))) (blkOk_by (own := [("_law_x", 10)]) (N := ["_law_code", "_law_tables", "_law_pairs", "_law_due", "_law_many", "_law_found", "_law_one", "_law_two", "_law_allowed_here", "_law_three", "_law_x"]) (sc := defScope s_law_below) (by decide +kernel)) (fun _ _ _ _ _ => (xg_nameW nd rfl (Or.inl rfl))) (fun _ _ _ _ _ => xts_nil) (fun _ _ _ _ _ => (of_new (xn_call (ban := 1000) takes0 G_law_allowed (hr.mono (by decide)) (by rfl) T.M_law_allowed T.F_law_allowed.kp T.B_law_allowed (xm_val (xe_var 0) (xm_val (xe_var 1) (xm_val (xe_tup (xa_cons (xe_var 6) (xa_cons (xe_var 7) xa_nil))) (xm_val (xe_var 10) (xm_val (xe_ixR ix_seq imp_ix (xe_var 3) (xe_var 10) (fun _ _ => rfl)) xm_nil))))))))))))
    xs_nil)
    (xs_one (xs_if (xt_cmp (op_notInX (hu65 hr)) imp_notInX (of_new (xn_lst xa_nil)) (xe_var 8) (by rfl))
    (xs_one (xs_for (passes_of rfl) rfl (xi_range1 (by rfl) T.Z_range (xe_var 4)) (xg_name nd rfl (Or.inr rfl))
    (xs_one (xs_if (xt_val (xe_callB (cr_all rfl) imp_all (by rfl) T.Z_all bt_all (xa_cons (of_new (xn_lc (own := [("_law_x", 10)]) rfl nd (xi_range1 (by rfl) T.Z_range (xe_callB call_lenAll imp_len (by rfl) T.Z_len bt_len (xa_cons (xe_var 3) xa_nil))) (blkOk_by (own := [("_law_x", 10)]) (N := ["_law_code", "_law_tables", "_law_pairs", "_law_due", "_law_many", "_law_found", "_law_one", "_law_two", "_law_allowed_here", "_law_three", "_law_x"]) (sc := defScope s_law_below) (by decide +kernel)) (fun _ _ _ _ _ => (xg_nameW nd rfl (Or.inl rfl))) (fun _ _ _ _ _ => xts_nil) (fun _ _ _ _ _ => (xe_cmp (op_inX (hu65 hr)) imp_inX (xe_ixR ix_seq imp_ix (xe_ixR ix_seq imp_ix (xe_ixR ix_seq imp_ix (xe_var 1) xe_int (fun _ _ => rfl)) (xe_var 9) (fun _ _ => rfl)) (xe_var 10) (fun _ _ => rfl)) (xe_ixR ix_seq imp_ix (xe_var 8) (xe_var 10) (fun _ _ => rfl)) (by rfl))))) xa_nil)))
    (xs_one (xs_dput (i := 5) (hu1 hr) (pv 5) (xe_tup (xa_cons (xe_var 7) (xa_cons (xe_var 9) xa_nil))) xe_bl))
    xs_nil))))
    xs_nil)))))
    (xs_one (xs_retN (xn_listD rfl (by rfl) T.Z_list (pv 5))))))))
theorem ok_law_every (T : Txt K mg cv A) : FnOk P w K mg base (L2.CX P w) 1 A.a_law_every A.d_law_every ["_law_many"] (spP K cv true [false] f_law_every) := by
  have nd := sc_law_every.nd
  exact fn_pure (body := b_law_every) [false] T.F_law_every sc_law_every f_law_every rfl (by decide) rfl (fun cdv AA outer s H E hr => by
    have tk := takes_of (X := cxOf (L2.CX P w) P w K mg base ["_law_many", "_law_found", "_law_one", "_law_two"] "_law_every" (defScope s_law_every) A.a_law_every cdv AA outer s H E) rfl rfl rfl rfl
    exact (xs_cons (xs_setO (i := 1) nd rfl (Or.inl rfl) (xn_lst xa_nil))
    (xs_cons (xs_for (passes_of rfl) rfl (xi_range1 (by rfl) T.Z_range (xe_var 0)) (xg_name nd rfl (Or.inr rfl))
    (xs_one (xs_extend (i := 1) rfl (of_new (xn_lc (own := [("_law_two", 3)]) rfl nd (xi_range1 (by rfl) T.Z_range (xe_var 0)) (blkOk_by (own := [("_law_two", 3)]) (N := ["_law_many", "_law_found", "_law_one", "_law_two"]) (sc := defScope s_law_every) (by decide +kernel)) (fun _ _ _ _ _ => (xg_nameW nd rfl (Or.inl rfl))) (fun _ _ _ _ _ => xts_nil) (fun _ _ _ _ _ => (xe_tup (xa_cons (xe_var 2) (xa_cons (xe_var 3) xa_nil)))))) (pe_bm PySem.F.plainAttrs_list PySem.F.slot_list_extend PySem.F.type_list_extend mt_extend (pv 1) (pa_cons (of_new (xn_lc (own := [("_law_two", 3)]) rfl nd (xi_range1 (by rfl) T.Z_range (xe_var 0)) (blkOk_by (own := [("_law_two", 3)]) (N := ["_law_many", "_law_found", "_law_one", "_law_two"]) (sc := defScope s_law_every) (by decide +kernel)) (fun _ _ _ _ _ => (xg_nameW nd rfl (Or.inl rfl))) (fun _ _ _ _ _ => xts_nil) (fun _ _ _ _ _ => (xe_tup (xa_cons (xe_var 2) (xa_cons (xe_var 3) xa_nil)))))) pa_nil)))))
    (xs_one (xs_retN (xn_take 1))))))
theorem ok_law_is_paper (T : Txt K mg cv A) : FnOk P w K mg base (L2.CX P w) 3 A.a_law_is_paper A.d_law_is_paper ["_law_code", "_law_size_here", "_law_live", "_law_lists"] (spP K cv false [false, false, false, false] f_law_is_paper) := by
  have G_law_table := ok_law_table (P := P) (w := w) (base := base) (cv := cv) T
  have G_law_below := ok_law_below (P := P) (w := w) (base := base) (cv := cv) T
  have G_law_every := ok_law_every (P := P) (w := w) (base := base) (cv := cv) T
  have nd := sc_law_is_paper.nd
  exact fn_pure (body := b_law_is_paper) [false, false, false, false] T.F_law_is_paper sc_law_is_paper f_law_is_paper rfl (by decide) rfl (fun cdv AA outer s H E hr => by
    have tk := takes_of (X := cxOf (L2.CX P w) P w K mg base ["_law_code", "_law_size_here", "_law_live", "_law_lists", "_law_tables", "_law_dy", "_law_pairs", "_law_k", "_law_due", "_law_known", "_law_pair", "_law_x"] "_law_is_paper" (defScope s_law_is_paper) A.a_law_is_paper cdv AA outer s H E) rfl rfl rfl rfl
    exact (xs_cons (xs_if (PW.pt (xw_or (xt_cmp (op_neD hr.units) imp_ne (xe_callB call_lenAll imp_len (by rfl) T.Z_len bt_len (xa_cons (xe_var 3) xa_nil)) (xe_ixR ix_seq imp_ix (xe_var 1) xe_int (fun _ _ => rfl)) (nomark _)) (xw_or1 (xt_cmp (op_neD hr.units) imp_ne (xe_ixR ix_seq imp_ix (xe_var 3) (xe_un un_neg imp_neg xe_int) (fun _ _ => rfl)) (of_new (xn_lst xa_nil)) (nomark _)))))
    (xs_one (xs_ret xe_bl))
    xs_nil)
    (xs_cons (xs_setLc (i := 4) (own := [("_law_dy", 5)]) (by decide) rfl nd rfl rfl (sw_true rfl rfl rfl (by decide +kernel)) (xi_range2 (by rfl) T.Z_range (xe_un un_neg imp_neg xe_int) xe_int) (blkOk_by (own := [("_law_dy", 5)]) (N := ["_law_code", "_law_size_here", "_law_live", "_law_lists", "_law_tables", "_law_dy", "_law_pairs", "_law_k", "_law_due", "_law_known", "_law_pair", "_law_x"]) (sc := defScope s_law_is_paper) (by decide +kernel)) (fun _ _ _ _ _ => (xg_nameW nd rfl (Or.inl rfl))) (fun _ _ _ _ _ => xts_nil) (fun _ _ _ _ _ => (of_new (xn_call (ban := 1000) takes0 G_law_table (hr.mono (by decide)) (by rfl) T.M_law_table T.F_law_table.kp T.B_law_table (xm_val (xe_var 0) (xm_val (xe_ixR ix_seq imp_ix (xe_var 1) xe_int (fun _ _ => rfl)) (xm_val (xe_var 5) xm_nil)))))))
    (xs_cons (xs_set (i := 6) nd rfl (Or.inl rfl) (of_new (xn_call (ban := 1000) tk G_law_every (hr.mono (by decide)) (by rfl) T.M_law_every T.F_law_every.kp T.B_law_every (xm_val (xe_callB call_lenAll imp_len (by rfl) T.Z_len bt_len (xa_cons (xe_ixR ix_seq imp_ix (xe_var 4) xe_int (fun _ _ => rfl)) xa_nil)) xm_nil))))
    (xs_cons (xs_for (passes_of rfl) rfl (xi_range1 (by rfl) T.Z_range (xe_ixR ix_seq imp_ix (xe_var 1) xe_int (fun _ _ => rfl))) (xg_name nd rfl (Or.inr rfl))
    (xs_cons (xs_setLc (i := 8) (own := [("_law_x", 11)]) (by decide) rfl nd rfl rfl (sw_true rfl rfl rfl (by decide +kernel)) (xi_range1 (by rfl) T.Z_range (xe_ixR ix_seq imp_ix (xe_var 1) xe_int (fun _ _ => rfl))) (blkOk_by (own := [("_law_x", 11)]) (N := ["_law_code", "_law_size_here", "_law_live", "_law_lists", "_law_tables", "_law_dy", "_law_pairs", "_law_k", "_law_due", "_law_known", "_law_pair", "_law_x"]) (sc := defScope s_law_is_paper) (by decide +kernel)) (fun _ _ _ _ _ => (xg_nameW nd rfl (Or.inl rfl))) (fun _ _ _ _ _ => xts_nil) (fun _ _ _ _ _ => (xe_cmp (op_inX (hu65 hr)) imp_inX (xe_tup (xa_cons (xe_var 11) (xa_cons (xe_var 7) xa_nil))) (xe_var 2) (by rfl))))
    (xs_cons (xs_setO (i := 9) nd rfl (Or.inl rfl) xn_dnewT)
    (xs_cons (xs_for (passes_of rfl) rfl (xi_seq (xe_ixR ix_seq imp_ix (xe_var 3) (xe_var 7) (fun _ _ => rfl))) (xg_name nd rfl (Or.inl rfl))
    (xs_one (xs_dput (i := 9) (hu1 hr) (pv 9) (xe_var 10) xe_bl)))
    (xs_cons (xs_for (passes_of rfl) rfl (xi_seq (of_new (xn_call (ban := 1000) tk G_law_below (hr.mono (by decide)) (by rfl) T.M_law_below T.F_law_below.kp T.B_law_below (xm_val (xe_var 0) (xm_val (xe_var 4) (xm_val (xe_var 6) (xm_val (xe_var 8) xm_nil))))))) (xg_name nd rfl (Or.inl rfl))
    (xs_one (xs_if (xt_cmpO (op_notInX (hu65 hr)) imp_notInX (xe_var 10) (pv 9) (by rfl))
    (xs_one (xs_ret xe_bl))
    xs_nil)))
    (xs_one (xs_set (i := 6) nd rfl (Or.inl rfl) (xe_ixR ix_seq imp_ix (xe_var 3) (xe_var 7) (fun _ _ => rfl)))))))))
    (xs_one (xs_ret xe_bl)))))))
theorem ok_law_size (T : Txt K mg cv A) : FnOk P w K mg base (L2.CX P w) 2 A.a_law_size A.d_law_size ["_law_pen_here", "_law_at"] (spB K cv false [false] f_law_size) := by
  have G_law_draw := ok_law_draw (P := P) (w := w) (base := base) (cv := cv) T
  have nd := sc_law_size.nd
  exact fn_bor (body := b_law_size) [false] T.F_law_size sc_law_size f_law_size rfl (by decide) rfl (fun cdv AA outer s H E hr => by
    have tk := takes_of (X := cxOf (L2.CX P w) P w K mg base ["_law_pen_here", "_law_at", "_law_way"] "_law_size" (defScope s_law_size) A.a_law_size cdv AA outer s H E) rfl rfl rfl rfl
    exact (xs_cons (xs_set (i := 2) nd rfl (Or.inl rfl) (xe_callBor tk G_law_draw (hr.mono (by decide)) (by rfl) T.M_law_draw T.F_law_draw.kp T.B_law_draw (pv 0) (xm_val xe_int xm_nil)))
    (xs_cons (xs_if (PW.pt (xw_and (xt_cmp (op_eqD hr.units) imp_eq (xe_var 2) xe_int (nomark _)) (xw_and1 (xt_cmp (op_eqD hr.units) imp_eq (xe_var 1) xe_int (nomark _)))))
    (xs_one (xs_ret (xe_tup (xa_cons xe_int (xa_cons (xe_op2R op_addAll imp_add xe_int (xe_op2R op_fdivW (imp_I fun _ _ _ => .int _) (xe_callBor tk G_law_draw (hr.mono (by decide)) (by rfl) T.M_law_draw T.F_law_draw.kp T.B_law_draw (pv 0) (xm_val xe_int xm_nil)) xe_int)) xa_nil)))))
    xs_nil)
    (xs_cons (xs_if (xt_cmp (op_ltAll hr.units0) imp_lt (xe_var 2) xe_int (nomark _))
    (xs_one (xs_ret (xe_tup (xa_cons xe_int (xa_cons (xe_op2R op_addAll imp_add xe_int (xe_callBor tk G_law_draw (hr.mono (by decide)) (by rfl) T.M_law_draw T.F_law_draw.kp T.B_law_draw (pv 0) (xm_val (xe_ixR ix_seq imp_ix (of_new (xn_lst (xa_cons xe_int (xa_cons xe_int xa_nil)))) (xe_callT call_int1 imp_int (by rfl) T.Z_int bt_int (xa_cons (xe_cmp op_gt (imp_I0 fun _ _ _ => .bl _) (xe_var 1) xe_int (nomark _)) xa_nil)) (fun _ _ => rfl)) xm_nil))) xa_nil)))))
    xs_nil)
    (xs_one (xs_ret (xe_tup (xa_cons xe_int (xa_cons (xe_op2R op_addAll imp_add xe_int (xe_callBor tk G_law_draw (hr.mono (by decide)) (by rfl) T.M_law_draw T.F_law_draw.kp T.B_law_draw (pv 0) (xm_val (xe_ixR ix_seq imp_ix (of_new (xn_lst (xa_cons xe_int (xa_cons xe_int xa_nil)))) (xe_callBor tk G_law_draw (hr.mono (by decide)) (by rfl) T.M_law_draw T.F_law_draw.kp T.B_law_draw (pv 0) (xm_val xe_int xm_nil)) (fun _ _ => rfl)) xm_nil))) xa_nil)))))))))
theorem ok_law_picture (T : Txt K mg cv A) : FnOk P w K mg base (L2.CX P w) 2 A.a_law_picture A.d_law_picture ["_law_pen_here", "_law_size_here"] (spB K cv true [false] f_law_picture) := by
  have G_law_draw := ok_law_draw (P := P) (w := w) (base := base) (cv := cv) T
  have nd := sc_law_picture.nd
  exact fn_bor (body := b_law_picture) [false] T.F_law_picture sc_law_picture f_law_picture rfl (by decide) rfl (fun cdv AA outer s H E hr => by
    have tk := takes_of (X := cxOf (L2.CX P w) P w K mg base ["_law_pen_here", "_law_size_here", "_law_way", "_law_found", "_law_x", "_law_y"] "_law_picture" (defScope s_law_picture) A.a_law_picture cdv AA outer s H E) rfl rfl rfl rfl
    exact (xs_cons (xs_set (i := 2) nd rfl (Or.inl rfl) (xe_callBor tk G_law_draw (hr.mono (by decide)) (by rfl) T.M_law_draw T.F_law_draw.kp T.B_law_draw (pv 0) (xm_val xe_int xm_nil)))
    (xs_cons (xs_setO (i := 3) nd rfl (Or.inl rfl) (xn_lst xa_nil))
    (xs_cons (xs_for (passes_of rfl) rfl (xi_range1 (by rfl) T.Z_range (xe_ixR ix_seq imp_ix (xe_var 1) xe_int (fun _ _ => rfl))) (xg_name nd rfl (Or.inl rfl))
    (xs_one (xs_for (passes_of rfl) rfl (xi_range1 (by rfl) T.Z_range (xe_ixR ix_seq imp_ix (xe_var 1) xe_int (fun _ _ => rfl))) (xg_name nd rfl (Or.inl rfl))
    (xs_one (xs_if (PW.pt (xw_or (xt_cmp (op_eqD hr.units) imp_eq (xe_var 2) xe_int (nomark _)) (xw_or1 (PW.pt (xw_and (xt_cmp op_gt (imp_I0 fun _ _ _ => .bl _) (xe_var 2) xe_int (nomark _)) (xw_and1 (xt_cmp (op_eqD hr.units) imp_eq (xe_callBor tk G_law_draw (hr.mono (by decide)) (by rfl) T.M_law_draw T.F_law_draw.kp T.B_law_draw (pv 0) (xm_val xe_int xm_nil)) xe_int (nomark _))))))))
    (xs_one (xs_append (i := 3) rfl (Or.inl rfl) (xe_tup (xa_cons (xe_var 4) (xa_cons (xe_var 5) xa_nil))) (pe_bm PySem.F.plainAttrs_list PySem.F.slot_list_append PySem.F.type_list_append mt_append (pv 3) (pa_cons (xe_tup (xa_cons (xe_var 4) (xa_cons (xe_var 5) xa_nil))) pa_nil))))
    xs_nil)))))
    (xs_one (xs_retN (xn_take 3)))))))
theorem ok_law_least (T : Txt K mg cv A) : FnOk P w K mg base (L2.CX P w) 3 A.a_law_least A.d_law_least ["_law_code", "_law_size_here", "_law_live"] (spP K cv true [false, false, false] f_law_least) := by
  have G_law_table := ok_law_table (P := P) (w := w) (base := base) (cv := cv) T
  have G_law_below := ok_law_below (P := P) (w := w) (base := base) (cv := cv) T
  have G_law_every := ok_law_every (P := P) (w := w) (base := base) (cv := cv) T
  have nd := sc_law_least.nd
  exact fn_pure (body := b_law_least) [false, false, false] T.F_law_least sc_law_least f_law_least rfl (by decide) rfl (fun cdv AA outer s H E hr => by
    have tk := takes_of (X := cxOf (L2.CX P w) P w K mg base ["_law_code", "_law_size_here", "_law_live", "_law_tables", "_law_dy", "_law_pairs", "_law_lists", "_law_y", "_law_x"] "_law_least" (defScope s_law_least) A.a_law_least cdv AA outer s H E) rfl rfl rfl rfl
    exact (xs_cons (xs_setLc (i := 3) (own := [("_law_dy", 4)]) (by decide) rfl nd rfl rfl (sw_true rfl rfl rfl (by decide +kernel)) (xi_range2 (by rfl) T.Z_range (xe_un un_neg imp_neg xe_int) xe_int) (blkOk_by (own := [("_law_dy", 4)]) (N := ["_law_code", "_law_size_here", "_law_live", "_law_tables", "_law_dy", "_law_pairs", "_law_lists", "_law_y", "_law_x"]) (sc := defScope s_law_least) (by decide +kernel)) (fun _ _ _ _ _ => (xg_nameW nd rfl (Or.inl rfl))) (fun _ _ _ _ _ => xts_nil) (fun _ _ _ _ _ => (of_new (xn_call (ban := 1000) takes0 G_law_table (hr.mono (by decide)) (by rfl) T.M_law_table T.F_law_table.kp T.B_law_table (xm_val (xe_var 0) (xm_val (xe_ixR ix_seq imp_ix (xe_var 1) xe_int (fun _ _ => rfl)) (xm_val (xe_var 4) xm_nil)))))))
    (xs_cons (xs_set (i := 5) nd rfl (Or.inl rfl) (of_new (xn_call (ban := 1000) tk G_law_every (hr.mono (by decide)) (by rfl) T.M_law_every T.F_law_every.kp T.B_law_every (xm_val (xe_callB call_lenAll imp_len (by rfl) T.Z_len bt_len (xa_cons (xe_ixR ix_seq imp_ix (xe_var 3) xe_int (fun _ _ => rfl)) xa_nil)) xm_nil))))
    (xs_cons (xs_setO (i := 6) nd rfl (Or.inl rfl) (xn_lst xa_nil))
    (xs_cons (xs_for (passes_of rfl) rfl (xi_range1 (by rfl) T.Z_range (xe_ixR ix_seq imp_ix (xe_var 1) xe_int (fun _ _ => rfl))) (xg_name nd rfl (Or.inr rfl))
    (xs_cons (xs_set (i := 5) nd rfl (Or.inl rfl) (of_new (xn_call (ban := 1000) tk G_law_below (hr.mono (by decide)) (by rfl) T.M_law_below T.F_law_below.kp T.B_law_below (xm_val (xe_var 0) (xm_val (xe_var 3) (xm_val (xe_var 5) (xm_val (of_new (xn_lc (own := [("_law_x", 8)]) rfl nd (xi_range1 (by rfl) T.Z_range (xe_ixR ix_seq imp_ix (xe_var 1) xe_int (fun _ _ => rfl))) (blkOk_by (own := [("_law_x", 8)]) (N := ["_law_code", "_law_size_here", "_law_live", "_law_tables", "_law_dy", "_law_pairs", "_law_lists", "_law_y", "_law_x"]) (sc := defScope s_law_least) (by decide +kernel)) (fun _ _ _ _ _ => (xg_nameW nd rfl (Or.inl rfl))) (fun _ _ _ _ _ => xts_nil) (fun _ _ _ _ _ => (xe_cmp (op_inX (hu65 hr)) imp_inX (xe_tup (xa_cons (xe_var 8) (xa_cons (xe_var 7) xa_nil))) (xe_var 2) (by rfl))))) xm_nil)))))))
    (xs_one (xs_append (i := 6) rfl (Or.inl rfl) (of_new (xn_callT call_list_of imp_list (by rfl) T.Z_list bt_list (xa_cons (xe_var 5) xa_nil))) (pe_bm PySem.F.plainAttrs_list PySem.F.slot_list_append PySem.F.type_list_append mt_append (pv 6) (pa_cons (of_new (xn_callT call_list_of imp_list (by rfl) T.Z_list bt_list (xa_cons (xe_var 5) xa_nil))) pa_nil))))))
    (xs_one (xs_retN (xn_take 6))))))))
theorem ok_law_bent (T : Txt K mg cv A) : FnOk P w K mg base (L2.CX P w) 2 A.a_law_bent A.d_law_bent ["_law_pen_here", "_law_lists", "_law_many"] (spB K cv true [false, false] f_law_bent) := by
  have G_law_draw := ok_law_draw (P := P) (w := w) (base := base) (cv := cv) T
  have nd := sc_law_bent.nd
  exact fn_bor (body := b_law_bent) [false, false] T.F_law_bent sc_law_bent f_law_bent rfl (by decide) rfl (fun cdv AA outer s H E hr => by
    have tk := takes_of (X := cxOf (L2.CX P w) P w K mg base ["_law_pen_here", "_law_lists", "_law_many", "_law_found", "_law_pairs", "_law_at", "_law_way", "_law_odd"] "_law_bent" (defScope s_law_bent) A.a_law_bent cdv AA outer s H E) rfl rfl rfl rfl
    exact (xs_regW1 (i := 3) (own := [("_law_pairs", 4)]) (by decide) rfl nd rfl rfl (sw_true rfl rfl rfl (by decide +kernel)) (xi_seq (xe_var 1)) (blkOk_by (own := [("_law_pairs", 4)]) (N := ["_law_pen_here", "_law_lists", "_law_many", "_law_found", "_law_pairs", "_law_at", "_law_way", "_law_odd"]) (sc := defScope s_law_bent) (by decide +kernel)) (fun _ _ _ _ _ => (xg_nameW nd rfl (Or.inl rfl))) (fun _ _ _ _ _ => (xn_callT call_list_of imp_list (by rfl) T.Z_list bt_list (xa_cons (xe_var 4) xa_nil)))
    (pss_cons (ps_if (xt_cmp (op_eqD hr.units) imp_eq (xe_callBor tk G_law_draw (hr.mono (by decide)) (by rfl) T.M_law_draw T.F_law_draw.kp T.B_law_draw (pv 0) (xm_val xe_int xm_nil)) xe_int (nomark _))
    (pss_cons (ps_asg (pe_lst pa_nil) (pg_sub (pv 3) (xe_un un_neg imp_neg xe_int) set_list))
    pss_nil)
    pss_nil)
    (pss_cons (ps_set (i := 5) nd rfl (Or.inl rfl) (pe_callBw tk G_law_draw (hr.mono (by decide)) (by rfl) T.M_law_draw T.F_law_draw.kp T.B_law_draw (pv 0) (pa_cons (pe_callB call_len_seq (by rfl) T.Z_len bt_len (pa_cons (pv 3) pa_nil)) pa_nil)) (by rfl))
    (pss_cons (ps_set (i := 6) nd rfl (Or.inl rfl) (xe_callBor tk G_law_draw (hr.mono (by decide)) (by rfl) T.M_law_draw T.F_law_draw.kp T.B_law_draw (pv 0) (xm_val xe_int xm_nil)) (by rfl))
    (pss_cons (ps_if (PW.pt (pw_and (xt_cmp (op_eqD hr.units) imp_eq (xe_var 6) xe_int (nomark _)) (pw_and1 (pt_cmpR (op_neD hr.units) (pe_ix ix_seq (pv 3) (xe_var 5) (fun _ _ => rfl)) (pe_lst pa_nil) (nomark _)))))
    (pss_cons (ps_expr (pe_bm PySem.F.plainAttrs_list PySem.F.slot_list_pop PySem.F.type_list_pop mt_popAt (pe_ix ix_seq (pv 3) (xe_var 5) (fun _ _ => rfl)) (pa_cons (pe_callBw tk G_law_draw (hr.mono (by decide)) (by rfl) T.M_law_draw T.F_law_draw.kp T.B_law_draw (pv 0) (pa_cons (pe_callB call_len_seq (by rfl) T.Z_len bt_len (pa_cons (pe_ix ix_seq (pv 3) (xe_var 5) (fun _ _ => rfl)) pa_nil)) pa_nil)) pa_nil)))
    xs_nil)
    (pss_one (ps_if (xt_cmp (op_eqD hr.units) imp_eq (xe_var 6) xe_int (nomark _))
    (pss_cons (ps_expr (pe_bm PySem.F.plainAttrs_list PySem.F.slot_list_insert PySem.F.type_list_insert mt_insL (pe_ix ix_seq (pv 3) (xe_var 5) (fun _ _ => rfl)) (pa_cons (pe_callBw tk G_law_draw (hr.mono (by decide)) (by rfl) T.M_law_draw T.F_law_draw.kp T.B_law_draw (pv 0) (pa_cons (pe_op op_addAll (pe_callB call_len_seq (by rfl) T.Z_len bt_len (pa_cons (pe_ix ix_seq (pv 3) (xe_var 5) (fun _ _ => rfl)) pa_nil)) xe_int) pa_nil)) (pa_cons (xe_tup (xa_cons (xe_callBor tk G_law_draw (hr.mono (by decide)) (by rfl) T.M_law_draw T.F_law_draw.kp T.B_law_draw (pv 0) (xm_val (xe_var 2) xm_nil)) (xa_cons (xe_callBor tk G_law_draw (hr.mono (by decide)) (by rfl) T.M_law_draw T.F_law_draw.kp T.B_law_draw (pv 0) (xm_val (xe_var 2) xm_nil)) xa_nil))) pa_nil))))
    xs_nil)
    (pss_one (ps_if (xt_cmp (op_eqD hr.units) imp_eq (xe_var 6) xe_int (nomark _))
    (pss_cons (ps_set (i := 7) nd rfl (Or.inl rfl) (xe_ixR ix_seq imp_ix (of_new (xn_lst (xa_cons (xe_tup (xa_cons (xe_var 2) (xa_cons xe_int xa_nil))) (xa_cons (xe_tup (xa_cons xe_int (xa_cons (xe_un un_neg imp_neg xe_int) xa_nil))) (xa_cons (xe_tup (xa_cons (xe_un un_neg imp_neg xe_int) (xa_cons (xe_var 2) xa_nil))) (xa_cons (xe_tup (xa_cons (xe_op2R op_pow (imp_I fun _ _ _ => .int _) xe_int xe_int) (xa_cons (xe_op2R op_pow (imp_I fun _ _ _ => .int _) xe_int xe_int) xa_nil))) (xa_cons (xe_tup (xa_cons (xe_var 2) (xa_cons (xe_var 2) xa_nil))) xa_nil))))))) (xe_callBor tk G_law_draw (hr.mono (by decide)) (by rfl) T.M_law_draw T.F_law_draw.kp T.B_law_draw (pv 0) (xm_val xe_int xm_nil)) (fun _ _ => rfl)) (by rfl))
    (pss_cons (ps_expr (pe_bm PySem.F.plainAttrs_list PySem.F.slot_list_append PySem.F.type_list_append mt_append (pe_ix ix_seq (pv 3) (xe_var 5) (fun _ _ => rfl)) (pa_cons (xe_var 7) pa_nil)))
    xs_nil))
    (pss_one (ps_if (xt_cmp (op_eqD hr.units) imp_eq (xe_var 6) xe_int (nomark _))
    (xs_one (xs_expr (xe_lpop (i := 3) (pe_bm PySem.F.plainAttrs_list PySem.F.slot_list_pop PySem.F.type_list_pop mt_popAt (pv 3) (pa_cons (xe_var 5) pa_nil)))))
    (pss_one (ps_if (xt_cmp (op_eqD hr.units) imp_eq (xe_var 6) xe_int (nomark _))
    (xs_one (xs_lins (i := 3) (pe_bm PySem.F.plainAttrs_list PySem.F.slot_list_insert PySem.F.type_list_insert mt_insL (pv 3) (pa_cons (xe_var 5) (pa_cons (of_new (xn_lst xa_nil)) pa_nil)))))
    (pss_one (ps_if (xt_cmp (op_eqD hr.units) imp_eq (xe_var 6) xe_int (nomark _))
    (xs_one (xs_lock 3 (xs_setOLc (i := 3) (own := [("_law_pairs", 4)]) (by decide) rfl nd rfl rfl (sw_true rfl rfl rfl (by decide +kernel)) (xi_own (pv 3)) (blkOk_by (own := [("_law_pairs", 4)]) (N := ["_law_pen_here", "_law_lists", "_law_many", "_law_found", "_law_pairs", "_law_at", "_law_way", "_law_odd"]) (sc := defScope s_law_bent) (by decide +kernel)) (fun _ _ _ _ _ => (xg_nameW nd rfl (Or.inl rfl))) (fun _ _ _ _ _ => xts_nil) (fun _ _ _ _ _ => (of_new (xn_lst xa_nil))))))
    xs_nil)))))))))))
    (xs_cons (xs_if (xt_cmp (op_eqD hr.units) imp_eq (xe_callBor tk G_law_draw (hr.mono (by decide)) (by rfl) T.M_law_draw T.F_law_draw.kp T.B_law_draw (pv 0) (xm_val xe_int xm_nil)) xe_int (nomark _))
    (xs_one (xs_lock 3 (xs_setOLc (i := 3) (own := [("_law_pairs", 4)]) (by decide) rfl nd rfl rfl (sw_true rfl rfl rfl (by decide +kernel)) (xi_own (pv 3)) (blkOk_by (own := [("_law_pairs", 4)]) (N := ["_law_pen_here", "_law_lists", "_law_many", "_law_found", "_law_pairs", "_law_at", "_law_way", "_law_odd"]) (sc := defScope s_law_bent) (by decide +kernel)) (fun _ _ _ _ _ => (xg_nameW nd rfl (Or.inl rfl))) (fun _ _ _ _ _ => xts_nil) (fun _ _ _ _ _ => (of_new (xn_lstRev rfl (by rfl) T.Z_list (by rfl) T.Z_reversed (xe_var 4)))))))
    xs_nil)
    (xs_one (xs_retN (xn_take 3))))))))
    (gy_cons (gw_if gc_old (gw_seq gw_put
    gw_nil)
    gw_nil)
    (gy_cons (gw_set (j := 5) (by decide) (by decide) (gv_call (cv := cv) (W := fun cls d _ H => E cls d H) gv_len))
    (gy_cons (gw_set (j := 6) (by decide) (by decide) gv_old)
    (gy_seq (gy_if (gc_and gc_old gc_ne) (gy_cons (gw_pop (gv_call (cv := cv) (W := fun cls d _ H => E cls d H) gv_lenAt))
    gy_end)
    (gy_if gc_old (gy_cons (gw_ins (gv_call (cv := cv) (W := fun cls d _ H => E cls d H) (gv_op imp_add gv_lenAt)))
    gy_end)
    (gy_if gc_old (gy_cons (gw_set (j := 7) (by decide) (by decide) gv_old)
    (gy_cons gw_app
    gy_end))
    (gy_if gc_old gy_end
    (gy_if gc_old gy_end
    (gy_if gc_old gy_end
    gy_end))))))))))))
theorem ok_law_bad (T : Txt K mg cv A) : FnOk P w K mg base (L2.CX P w) 2 A.a_law_bad A.d_law_bad ["_law_pen_here"] (spB K cv false [] f_law_bad) := by
  have G_law_draw := ok_law_draw (P := P) (w := w) (base := base) (cv := cv) T
  have nd := sc_law_bad.nd
  exact fn_bor (body := b_law_bad) [] T.F_law_bad sc_law_bad f_law_bad rfl (by decide) rfl (fun cdv AA outer s H E hr => by
    have tk := takes_of (X := cxOf (L2.CX P w) P w K mg base ["_law_pen_here", "_law_some_here"] "_law_bad" (defScope s_law_bad) A.a_law_bad cdv AA outer s H E) rfl rfl rfl rfl
    exact (xs_cons (xs_set (i := 1) nd rfl (Or.inl rfl) (of_new (xn_lst (xa_cons (xe_tup (xa_cons xe_int (xa_cons xe_int xa_nil))) (xa_cons (xe_tup (xa_cons xe_int (xa_cons xe_int xa_nil))) (xa_cons (xe_tup (xa_cons xe_int (xa_cons xe_int xa_nil))) (xa_cons (xe_tup (xa_cons xe_int (xa_cons xe_int xa_nil))) (xa_cons (xe_tup (xa_cons xe_int (xa_cons xe_int xa_nil))) (xa_cons (of_new (xn_lst (xa_cons xe_int (xa_cons xe_int xa_nil)))) (xa_cons (xe_tup (xa_cons xe_int xa_nil)) (xa_cons xe_non (xa_cons (xe_tup (xa_cons xe_bl (xa_cons xe_int xa_nil))) (xa_cons xe_str (xa_cons (xe_tup (xa_cons (xe_un un_neg imp_neg xe_int) (xa_cons (xe_op2R op_pow (imp_I fun _ _ _ => .int _) xe_int xe_int) xa_nil))) xa_nil))))))))))))))
    (xs_one (xs_ret (xe_ixR ix_seq imp_ix (xe_var 1) (xe_callBor tk G_law_draw (hr.mono (by decide)) (by rfl) T.M_law_draw T.F_law_draw.kp T.B_law_draw (pv 0) (xm_val (xe_callB call_lenAll imp_len (by rfl) T.Z_len bt_len (xa_cons (xe_var 1) xa_nil)) xm_nil)) (fun _ _ => rfl))))))
theorem ok_law_refused (T : Txt K mg cv A) : FnOk P w K mg base (L2.CX P w) 7 A.a_law_refused A.d_law_refused ["_law_code", "_law_size_here", "_law_live", "_law_lists"] (spP K cv false [false, false, false, false] f_law_refused) := by
  have G_holds_none := ok_holds_none (P := P) (w := w) (base := base) (cv := cv) T
  have nd := sc_law_refused.nd
  exact fn_pure (body := b_law_refused) [false, false, false, false] T.F_law_refused sc_law_refused f_law_refused rfl (by decide) rfl (fun cdv AA outer s H E hr => by
    have tk := takes_of (X := cxOf (L2.CX P w) P w K mg base ["_law_code", "_law_size_here", "_law_live", "_law_lists", "_law_found", "e"] "_law_refused" (defScope s_law_refused) A.a_law_refused cdv AA outer s H E) rfl rfl rfl rfl
    exact (xs_cons (xs_set (i := 4) nd rfl (Or.inl rfl) (of_new (xn_lst xa_nil)))
    (xs_cons (xs_tryV (i := 5) (by decide) rfl rfl rfl nd rfl rfl ⟨by rfl, by decide, Or.inl T.N_CellError⟩ tk (by
      intro k hk
      simp only [List.mem_cons, List.not_mem_nil, or_false] at hk
      rcases hk with rfl | rfl
      · rw [T.V_NoSize]; exact kit_to (by decide) (exm_of T.L_CellError T.Y_CellError T.S_NoSize_CellError)
      · rw [T.V_Outside]; exact kit_to (by decide) (exm_of T.L_CellError T.Y_CellError T.S_Outside_CellError)
      ) (by
      intro k hk
      simp only [List.mem_cons, List.not_mem_nil, or_false] at hk
      rcases hk with rfl | rfl
      · exact ⟨_, T.V_NoSize, T.W_NoSize⟩
      · exact ⟨_, T.V_Outside, T.W_Outside⟩
      ) (fun W pn xe tk po => (xs_one (xs_expr (xe_call (ban := 1000) tk G_holds_none (hr.mono (by decide)) (by rfl) T.M_holds_none T.F_holds_none.kp T.B_holds_none (xm_val (xe_var 0) (xm_val (xe_var 1) (xm_valR (xe_var 2) (xm_val (xe_var 3) xm_nil))))))))
    (fun a pn => (xs_one (xs_set (i := 4) nd rfl (Or.inl rfl) (of_new (xn_lst (xa_cons (xe_isX1 (IsK.mk (R := ["NoSize", "Outside"]) (f := fun k => isX k ["NoSize"]) (by
      intro k hk C hC
      simp only [List.mem_cons, List.not_mem_nil, or_false] at hk
      rcases hk with rfl | rfl
      · obtain rfl := hC.uniq T.W_NoSize; exact ⟨T.E_NoSize, kit_to (by decide) (kit_cons (kit_ref T.L_NoSize T.S_NoSize_NoSize) kit_nil)⟩
      · obtain rfl := hC.uniq T.W_Outside; exact ⟨T.E_Outside, kit_to (by decide) (kit_cons (kit_ref T.L_NoSize T.S_Outside_NoSize) kit_nil)⟩
      ) (kit_to (by decide) (kit_cons (kit_refT T.L_NoSize (fun z => nomatch z) T.U_NoSize) kit_nil))) (.own _) (by rfl) T.Z_isinstance (xe_var 5) (pe_glob (v := .ref A.c_NoSize) (by rfl) T.N_NoSize rfl (by decide))) (xa_cons (xe_isX1 (IsK.mk (R := ["NoSize", "Outside"]) (f := fun k => isX k ["Outside"]) (by
      intro k hk C hC
      simp only [List.mem_cons, List.not_mem_nil, or_false] at hk
      rcases hk with rfl | rfl
      · obtain rfl := hC.uniq T.W_NoSize; exact ⟨T.E_NoSize, kit_to (by decide) (kit_cons (kit_ref T.L_Outside T.S_NoSize_Outside) kit_nil)⟩
      · obtain rfl := hC.uniq T.W_Outside; exact ⟨T.E_Outside, kit_to (by decide) (kit_cons (kit_ref T.L_Outside T.S_Outside_Outside) kit_nil)⟩
      ) (kit_to (by decide) (kit_cons (kit_refT T.L_Outside (fun z => nomatch z) T.U_Outside) kit_nil))) (.own _) (by rfl) T.Z_isinstance (xe_var 5) (pe_glob (v := .ref A.c_Outside) (by rfl) T.N_Outside rfl (by decide))) (xa_cons (xe_isX1 (IsK.mk (R := ["NoSize", "Outside"]) (f := fun k => isX k ["ValueError"]) (by
      intro k hk C hC
      simp only [List.mem_cons, List.not_mem_nil, or_false] at hk
      rcases hk with rfl | rfl
      · obtain rfl := hC.uniq T.W_NoSize; exact ⟨T.E_NoSize, kit_to (by decide) (kit_cons (kit_tyE meta_ValueError T.S_NoSize_ValueError) kit_nil)⟩
      · obtain rfl := hC.uniq T.W_Outside; exact ⟨T.E_Outside, kit_to (by decide) (kit_cons (kit_tyE meta_ValueError T.S_Outside_ValueError) kit_nil)⟩
      ) (kit_to (by decide) (kit_cons kit_nonE kit_nil))) (.ty "ValueError") (by rfl) T.Z_isinstance (xe_var 5) (pe_bltn (v := .ty "ValueError") (by rfl) T.Z_ValueError bt_ValueError rfl (by decide) (by decide))) xa_nil)))))))))
    (xs_one (xs_ret (xe_var 4))))))
theorem ok_law (T : Txt K mg cv A) : FnOk P w K mg base (L2.CX P w) 8 A.a_law A.d_law ["_law_script"] (spP K cv false [false] f_law) := by
  have G_holds_none := ok_holds_none (P := P) (w := w) (base := base) (cv := cv) T
  have G_law_pen := ok_law_pen (P := P) (w := w) (base := base) (cv := cv) T
  have G_law_draw := ok_law_draw (P := P) (w := w) (base := base) (cv := cv) T
  have G_law_rule := ok_law_rule (P := P) (w := w) (base := base) (cv := cv) T
  have G_law_is_paper := ok_law_is_paper (P := P) (w := w) (base := base) (cv := cv) T
  have G_law_size := ok_law_size (P := P) (w := w) (base := base) (cv := cv) T
  have G_law_picture := ok_law_picture (P := P) (w := w) (base := base) (cv := cv) T
  have G_law_least := ok_law_least (P := P) (w := w) (base := base) (cv := cv) T
  have G_law_bent := ok_law_bent (P := P) (w := w) (base := base) (cv := cv) T
  have G_law_bad := ok_law_bad (P := P) (w := w) (base := base) (cv := cv) T
  have G_law_refused := ok_law_refused (P := P) (w := w) (base := base) (cv := cv) T
  have nd := sc_law.nd
  exact fn_pure (body := b_law) [false] T.F_law sc_law f_law rfl (by decide) rfl (fun cdv AA outer s H E hr => by
    have tk := takes_of (X := cxOf (L2.CX P w) P w K mg base ["_law_script", "_law_first", "_law_code", "_law_cell", "_law_k", "_law_pen_here", "_law_size_here", "_law_live", "_law_least_here", "_law_again", "_law_lists", "_law_handed", "_law_found", "_law_pairs"] "law" (defScope s_law) A.a_law cdv AA outer s H E) rfl rfl rfl rfl
    exact (xs_cons (xs_setO (i := 1) nd rfl (Or.inl rfl) (xn_call (ban := 1000) tk G_law_pen (hr.mono (by decide)) (by rfl) T.M_law_pen T.F_law_pen.kp T.B_law_pen (xm_val (xe_var 0) (xm_val xe_int xm_nil))))
    (xs_cons (xs_set (i := 2) nd rfl (Or.inl rfl) (xe_callBor tk G_law_rule (hr.mono (by decide)) (by rfl) T.M_law_rule T.F_law_rule.kp T.B_law_rule (pv 1) xm_nil))
    (xs_cons (xs_set (i := 3) nd rfl (Or.inl rfl) (xe_ixR ix_seq imp_ix (of_new (xn_lst (xa_cons (xe_tup (xa_cons (xe_un un_neg imp_neg xe_int) (xa_cons xe_int xa_nil))) (xa_cons (xe_tup (xa_cons xe_int (xa_cons xe_int xa_nil))) (xa_cons (xe_tup (xa_cons xe_int (xa_cons (xe_un un_neg imp_neg xe_int) xa_nil))) (xa_cons (xe_tup (xa_cons xe_int (xa_cons xe_int xa_nil))) (xa_cons (xe_tup (xa_cons (xe_op2R op_pow (imp_I fun _ _ _ => .int _) xe_int xe_int) (xa_cons xe_int xa_nil))) xa_nil))))))) (xe_callBor tk G_law_draw (hr.mono (by decide)) (by rfl) T.M_law_draw T.F_law_draw.kp T.B_law_draw (pv 1) (xm_val xe_int xm_nil)) (fun _ _ => rfl)))
    (xs_cons (xs_if (xt_cmp (op_neD hr.units) imp_ne (xe_call (ban := 1000) tk G_law_refused (hr.mono (by decide)) (by rfl) T.M_law_refused T.F_law_refused.kp T.B_law_refused (xm_val (xe_var 2) (xm_val (xe_tup (xa_cons xe_int (xa_cons xe_int xa_nil))) (xm_val (of_new (xn_lst (xa_cons (xe_var 3) xa_nil))) (xm_val (of_new (xn_lst (xa_cons (of_new (xn_lst xa_nil)) (xa_cons (of_new (xn_lst xa_nil)) xa_nil)))) xm_nil))))) (of_new (xn_lst (xa_cons xe_bl (xa_cons xe_bl (xa_cons xe_bl xa_nil))))) (nomark _))
    (xs_one (xs_ret xe_bl))
    xs_nil)
    (xs_cons (xs_if (xt_cmp (op_neD hr.units) imp_ne (xe_call (ban := 1000) tk G_law_refused (hr.mono (by decide)) (by rfl) T.M_law_refused T.F_law_refused.kp T.B_law_refused (xm_val (xe_var 2) (xm_val (xe_callBor tk G_law_bad (hr.mono (by decide)) (by rfl) T.M_law_bad T.F_law_bad.kp T.B_law_bad (pv 1) xm_nil) (xm_val (xe_ixR ix_seq imp_ix (of_new (xn_lst (xa_cons (of_new (xn_lst (xa_cons (xe_tup (xa_cons xe_int (xa_cons xe_int xa_nil))) xa_nil))) (xa_cons (of_new (xn_lst (xa_cons (xe_var 3) xa_nil))) xa_nil)))) (xe_callBor tk G_law_draw (hr.mono (by decide)) (by rfl) T.M_law_draw T.F_law_draw.kp T.B_law_draw (pv 1) (xm_val xe_int xm_nil)) (fun _ _ => rfl)) (xm_val (of_new (xn_lst (xa_cons (of_new (xn_lst xa_nil)) xa_nil))) xm_nil))))) (of_new (xn_lst (xa_cons xe_bl (xa_cons xe_bl (xa_cons xe_bl xa_nil))))) (nomark _))
    (xs_one (xs_ret xe_bl))
    xs_nil)
    (xs_cons (xs_for (passes_of rfl) rfl (xi_range2 (by rfl) T.Z_range xe_int (xe_callB (call_max2 rfl) imp_max2 (by rfl) T.Z_max bt_max (xa_cons xe_int (xa_cons (xe_callB (call_min2 rfl) imp_min2 (by rfl) T.Z_min bt_min (xa_cons (xe_callB call_lenAll imp_len (by rfl) T.Z_len bt_len (xa_cons (xe_var 0) xa_nil)) (xa_cons xe_int xa_nil))) xa_nil)))) (xg_name nd rfl (Or.inl rfl))
    (xs_cons (xs_setO (i := 5) nd rfl (Or.inl rfl) (xn_call (ban := 1000) tk G_law_pen (hr.mono (by decide)) (by rfl) T.M_law_pen T.F_law_pen.kp T.B_law_pen (xm_val (xe_var 0) (xm_val (xe_var 4) xm_nil))))
    (xs_cons (xs_set (i := 6) nd rfl (Or.inl rfl) (xe_callBor tk G_law_size (hr.mono (by decide)) (by rfl) T.M_law_size T.F_law_size.kp T.B_law_size (pv 5) (xm_val (xe_var 4) xm_nil)))
    (xs_cons (xs_set (i := 7) nd rfl (Or.inl rfl) (of_new (xn_callBor tk G_law_picture (hr.mono (by decide)) (by rfl) T.M_law_picture T.F_law_picture.kp T.B_law_picture (pv 5) (xm_val (xe_var 6) xm_nil))))
    (xs_cons (xs_set (i := 8) nd rfl (Or.inl rfl) (of_new (xn_call (ban := 1000) tk G_law_least (hr.mono (by decide)) (by rfl) T.M_law_least T.F_law_least.kp T.B_law_least (xm_val (xe_var 2) (xm_val (xe_var 6) (xm_val (xe_var 7) xm_nil))))))
    (xs_one (xs_for (passes_of rfl) rfl (xi_range1 (by rfl) T.Z_range (xe_op2R op_sub (imp_I0 fun _ _ _ => .int _) xe_int (xe_op2R op_fdivW (imp_I fun _ _ _ => .int _) (xe_ixR ix_seq imp_ix (xe_var 6) xe_int (fun _ _ => rfl)) xe_int))) (xg_name nd rfl (Or.inl rfl))
    (xs_cons (xs_set (i := 10) nd rfl (Or.inl rfl) (of_new (xn_callBor tk G_law_bent (hr.mono (by decide)) (by rfl) T.M_law_bent T.F_law_bent.kp T.B_law_bent (pv 5) (xm_val (xe_var 8) (xm_val (xe_op2R op_shl (imp_I fun _ _ _ => .int _) xe_int (xe_op2R op_addAll imp_add (xe_ixR ix_seq imp_ix (xe_var 6) xe_int (fun _ _ => rfl)) xe_int)) xm_nil)))))
    (xs_cons (xs_setLc (i := 11) (own := [("_law_pairs", 13)]) (by decide) rfl nd rfl rfl (sw_true rfl rfl rfl (by decide +kernel)) (xi_seq (xe_var 10)) (blkOk_by (own := [("_law_pairs", 13)]) (N := ["_law_script", "_law_first", "_law_code", "_law_cell", "_law_k", "_law_pen_here", "_law_size_here", "_law_live", "_law_least_here", "_law_again", "_law_lists", "_law_handed", "_law_found", "_law_pairs"]) (sc := defScope s_law) (by decide +kernel)) (fun _ _ _ _ _ => (xg_nameW nd rfl (Or.inl rfl))) (fun _ _ _ _ _ => xts_nil) (fun _ _ _ _ _ => (of_new (xn_callT call_list_of imp_list (by rfl) T.Z_list bt_list (xa_cons (xe_var 13) xa_nil)))))
    (xs_cons (xs_set (i := 12) nd rfl (Or.inl rfl) (xe_call (ban := 1000) tk G_holds_none (hr.mono (by decide)) (by rfl) T.M_holds_none T.F_holds_none.kp T.B_holds_none (xm_val (xe_var 2) (xm_val (xe_var 6) (xm_valR (of_new (xn_callT call_list_of imp_list (by rfl) T.Z_list bt_list (xa_cons (xe_var 7) xa_nil))) (xm_val (xe_var 11) xm_nil))))))
    (xs_one (xs_if (PW.pt (xw_or (xt_not (xt_val (xe_callB call_isi imp_isi (by rfl) T.Z_isinstance bt_isinstance (xa_cons (xe_var 12) (xa_cons (xe_ty (by rfl) T.Z_bool bt_bool) xa_nil))))) (xw_or (xt_cmp (op_neD hr.units) imp_ne (xe_var 12) (xe_call (ban := 1000) tk G_law_is_paper (hr.mono (by decide)) (by rfl) T.M_law_is_paper T.F_law_is_paper.kp T.B_law_is_paper (xm_val (xe_var 2) (xm_val (xe_var 6) (xm_val (xe_var 7) (xm_val (xe_var 10) xm_nil))))) (nomark _)) (xw_or1 (xt_cmp (op_neD hr.units) imp_ne (xe_var 11) (xe_var 10) (nomark _))))))
    (xs_one (xs_ret xe_bl))
    xs_nil))))))))))))
    (xs_one (xs_ret xe_bl)))))))))
end
local macro_rules | `(tactic| simp! [$ls,*] $[$loc:location]?) => `(tactic| simp only [zaa, zab, zac, zad, zae, zaf, zag, zah, zai, zaj, zak, zal, zam, zan, zao, zap, zaq, zar, zas, zat, zau, zav, zaw, zax, zay, zaz, zaA, zaB, zaC, zaD, zaE, zaF, zaG, zaH, zaI, zaJ, zaK, zaL, zaM, zaN, zaO, zaP, zaQ, zaR, zaS, zaT, zaU, zaV, zaW, zaX, zaY, zaZ, zba, zbb, zbc, zbd, zbe, zbf, zbg, zbh, zbi, zbj, zbk, zbl, zbm, zbn, zbo, zbp, zbq, zbr, zbs, zbt, zbu, zbv, zbw, zbx, zby, zbz, zbA, zbB, zbC, zbD, zbE, zbF, zbG, zbH, zbI, zbJ, zbK, zbL, zbM, zbN, zbO, zbP, zbQ, zbR, zbS, zbT, zbU, zbV, zbW, zbX, zbY, zbZ, zca, zcb, zcc, zcd, zce, zcf, zcg, zch, zci, zcj, zck, zcl, zcm, zcn, zco, zcp, zcq, zcr, zcs, zct, zcu, zcv, zcw, zcx, zcy, zcz, zcA, zcB, zcC, zcD, zcE, zcF, zcG, zcH, zcI, zcJ, zcK, zcL, zcM, zcN, zcO, zcP, zcQ, zcR, zcS, zcT, zcU, zcV, zcW, zcX, zcY, zcZ, zda, zdb, zdc, zdd, zde, zdf, zdg, zdh, zdi, zdj, zdk, zdl, zdm, zdn, zdo, zdp, zdq, zdr, zds, zdt, zdu, zdv, zdw, zdx, zdy, zdz, zdA, zdB, zdC, zdD, zdE, zdF, zdG, zdH, zdI, zdJ, zdK, zdL, zdM, zdN, zdO, zdP, zdQ, zdR, zdS, zdT, zdU, zdV, G.of_f, G.of_t, zdW, zdX, zdY, zdZ, zea, zeb, zec, zed, zee, zef, zeg, zeh, zei, zej, zek, zel, zem, zen, zeo, zep, zeq, zer, zes, zet, zeu, zev, zew, zex, zey, zez, zeA, zeB, zeC, zeD, zeE, zeX, zeY, zeZ, zfa, zfb, zfc, G.sz_1, G.sz_2, G.sz_3, G.sz_4, G.sz_0, zfd, zff, zfg, zfh, zfi, zfj, zfk, zfl, zfm, zfv, zfw, G.nc_0, G.nc_1, G.nc_2, G.nc_3, G.nc_4, G.nc_5, G.nc_6, G.nc_7, G.nc_8, G.nc_9, zfx, zfy, zfz, zfA, zfB, zfC, zfD, zfE, zfF, zfG, zfH, zfK, zfL, zfM, zfN, zfO, zgc, zgd, zge, zgq, zgr, zgC, zgD, zgE, zgF, zgG, zgH, zgI, zgJ, zgK, zgL, zgM, zgN, zgO, zgP, zgQ, zgR, zgS, zgT, zgW, zgX, zgY, zgZ, zha, zhi, zhj, zhk, zhn, zho, zhp, zhq, zhr, zhs, zht, zhu, zhv, zhw, zhF, zhG, zhY, zhZ, zia, zib, zic, zil, zja, zjb, zjc, zjd, zje, zjf, zji, zjj, zjk, zjl, zjm, zjn, zjo, zjp, zjq, zjr, zjt, zju, zjF, zjG, zjH, zjI, zjJ, zjK, zjL, zjM, zjN, zjO, zlK, List.getElem?_cons_zero, List.getElem?_cons_succ, List.set_cons_zero, List.set_cons_succ, G.atI_0, G.atI_1, G.atI_2, G.atI_3, Option.map_some, Option.bind_some, G.eqD_int, G.eqD_cell, G.eqD_bl, List.length_cons, List.length_nil, List.getD_cons_zero, List.getD_cons_succ, Bool.and_true, Bool.and_self, decide_true, decide_false, Bool.not_true, Bool.not_false, List.append_nil, List.nil_append, List.cons_append, if_true, if_false, Bool.false_eq_true, reduceIte, Int.reduceLT, Int.reduceLE, Int.reduceToNat, Int.reducePow, Int.reduceNeg, Int.reduceAdd, Int.reduceSub, Int.reduceMul, Nat.reduceAdd, Int.reduceEq, List.replicate, Nat.reduceSub, and_self, and_true, true_and, $ls,*] $[$loc]?)
open PySem PySem.Spec PyProof.Rows L2 G
theorem draw_is : f_law_draw = fDraw := rfl
theorem pen_is : f_law_pen = fPen := rfl
/-- does a row hold a column -/
def bitB (r : Nat) (x : Int) : Bool := decide (0 ≤ x) && r.testBit x.toNat
/-- how many neighbours a row one above, beside or below gives the column x -/
def rowC (k step : Int) (r : Nat) (x : Int) : Nat := (near k).countP fun d => decide (d.2 = step) && bitB r (x + d.1)
def tabD (k step : Int) (w : Nat) : D := .lst ((List.range (2 ^ (w + 2))).map fun r : Nat => .lst ((List.range w).map fun j : Nat => .int ((rowC k step r (1 + (j : Int)) : Nat) : Int)))
def lookD (w : Nat) : D := .lst ((List.range w).map fun j : Nat => .int (1 + (j : Int)))
theorem hasc_all : ∀ x < 6, ∀ r < 32, (match f_has_column [.int ((r : Nat) : Int), .int ((x : Nat) : Int)] with | .ok (.bl b) [] => b == r.testBit x | _ => false) = true := by decide +kernel
theorem hasc {r x : Nat} (hr : r < 32) (hx : x < 6) : f_has_column [.int (r : Int), .int (x : Int)] = .ok (.bl (r.testBit x)) [] := by
  have h := hasc_all x hx r hr
  split at h
  · next b e => rw [e, eq_of_beq h]
  · cases h
def tripD (k : Int) (bs ss : List Int) (w : Nat) : D := .inst "Triples" [("by_rule", ruleD k bs ss), ("looked", lookD w), ("tables", .lst [tabD k (-1) w, tabD k 0 w, tabD k 1 w])]
theorem init_is {k : Int} (hk : Kind k) (bs ss : List Int) (w : Nat) (hw : w = 1 ∨ w = 2 ∨ w = 3) : f_Triples___init [.inst "Triples" [], ruleD k bs ss, .int ((w : Int) + 2), .int 1, .int (w : Int)] = .ok .non [tripD k bs ss w] := by
  rcases hk with rfl | rfl | rfl
  · rcases hw with rfl | rfl | rfl
    · kernel_rfl
    · kernel_rfl
    · kernel_rfl
  · rcases hw with rfl | rfl | rfl
    · kernel_rfl
    · kernel_rfl
    · kernel_rfl
  · rcases hw with rfl | rfl | rfl
    · kernel_rfl
    · kernel_rfl
    · kernel_rfl
/-- what becomes of a column of the middle row -/
def cellB (k : Int) (bs ss : List Int) (one two three x : Nat) : Bool := decide (((rowC k (-1) one (x : Int) + rowC k 0 two (x : Int) + rowC k 1 three (x : Int) : Nat) : Int) ∈ if two.testBit x = true then ss else bs)
theorem fld_rule (k : Int) (bs ss : List Int) (w : Nat) : dFld "Triples" "by_rule" (tripD k bs ss w) = some (ruleD k bs ss) := by kernel_rfl
theorem fld_look (k : Int) (bs ss : List Int) (w : Nat) : dFld "Triples" "looked" (tripD k bs ss w) = some (lookD w) := by kernel_rfl
theorem fld_tabs (k : Int) (bs ss : List Int) (w : Nat) : dFld "Triples" "tables" (tripD k bs ss w) = some (.lst [tabD k (-1) w, tabD k 0 w, tabD k 1 w]) := by kernel_rfl
theorem at_map (f : Nat → D) {n i : Nat} (h : i < n) : atI ((List.range n).map f) (i : Int) = some (f i) := by
  refine atI_nat ?_
  rw [List.getElem?_map, List.getElem?_range h]
  rfl
theorem tab_at (k step : Int) (w : Nat) {r : Nat} (h : r < 2 ^ (w + 2)) : dIx (tabD k step w) (.int (r : Int)) = some (.lst ((List.range w).map fun j : Nat => .int ((rowC k step r (1 + (j : Int)) : Nat) : Int))) := at_map _ h
theorem row_at (k step : Int) (w r : Nat) {j : Nat} (h : j < w) : dIx (.lst ((List.range w).map fun j : Nat => .int ((rowC k step r (1 + (j : Int)) : Nat) : Int))) (.int (j : Int)) = some (.int ((rowC k step r (1 + (j : Int)) : Nat) : Int)) := at_map (fun j : Nat => .int ((rowC k step r (1 + (j : Int)) : Nat) : Int)) h
theorem comes_is (k n : Int) (bs ss : List Int) (b : Bool) : f_comes [ruleD k bs ss, .bl b, .int n] = .ok (.bl (decide (n ∈ if b = true then ss else bs))) [] := by
  have h1 := zhn n ss
  have h2 := zhn n bs
  unfold f_comes b_comes
  cases b with
  | true => simp! [ruleD, h1]
  | false => simp! [ruleD, h2]
def shownB (k : Int) (bs ss : List Int) (w one two three due : Nat) : Bool := (List.range w).all fun j => cellB k bs ss one two three (1 + j) == due.testBit (1 + j)
def rowF : List (Int × Int) → Int → Nat
  | [], _ => 0
  | c :: cs, y => (if c.2 = y then 2 ^ c.1.toNat else 0) + rowF cs y
theorem rowF_snoc (cs : List (Int × Int)) (c : Int × Int) (y : Int) : rowF (cs ++ [c]) y = rowF cs y + (if c.2 = y then 2 ^ c.1.toNat else 0) := by
  induction cs with
  | nil => show _ + 0 = 0 + _; omega
  | cons d cs ih => show _ + rowF (cs ++ [c]) y = _ + rowF cs y + _; rw [ih]; omega
theorem bits_add : ∀ W ≤ 5, ∀ x < W, ∀ r < 2 ^ W, r.testBit x = false → (2 ^ x + r < 2 ^ W ∧ ∀ j < W, (2 ^ x + r).testBit j = (decide (j = x) || r.testBit j)) := by decide +kernel
theorem rowF_bits {W : Nat} (hW : W ≤ 5) {cs : List (Int × Int)} (hn : cs.Nodup) (hc : ∀ c ∈ cs, 0 ≤ c.1 ∧ c.1 < W) (y : Int) : rowF cs y < 2 ^ W ∧ ∀ j < W, (rowF cs y).testBit j = decide (((j : Int), y) ∈ cs) := by
  induction cs with
  | nil => exact ⟨Nat.two_pow_pos W, fun j _ => by rw [show rowF [] y = 0 from rfl, Nat.zero_testBit, decide_eq_false (List.not_mem_nil)]⟩
  | cons c cs ih =>
    obtain ⟨hx, hn⟩ := List.nodup_cons.mp hn
    obtain ⟨h1, h2⟩ := ih hn fun d hd => hc d (List.mem_cons_of_mem _ hd)
    have hc0 := hc c (List.mem_cons_self ..)
    obtain ⟨x, v⟩ := c
    obtain ⟨n, rfl⟩ := Int.eq_ofNat_of_zero_le hc0.1
    have hnW : n < W := by simp only at hc0; omega
    by_cases hv : v = y
    · subst hv
      have hr : (rowF cs v).testBit n = false := by rw [h2 n hnW, decide_eq_false hx]
      obtain ⟨g1, g2⟩ := bits_add W hW n hnW (rowF cs v) h1 hr
      have e : rowF (((n : Int), v) :: cs) v = 2 ^ n + rowF cs v := by
        show (if v = v then _ else _) + _ = _
        rw [if_pos rfl, Int.toNat_natCast]
      rw [e]
      refine ⟨g1, fun j hj => ?_⟩
      rw [g2 j hj, h2 j hj]
      by_cases hjn : j = n
      · subst hjn
        rw [decide_eq_true rfl, decide_eq_true (List.mem_cons_self ..), Bool.true_or]
      · rw [decide_eq_false hjn, Bool.false_or]
        refine decide_eq_decide.mpr ⟨List.mem_cons_of_mem _, fun h => ?_⟩
        rcases List.mem_cons.mp h with h | h
        · exact absurd (by injection h with h _; omega) hjn
        · exact h
    · have e : rowF (((n : Int), v) :: cs) y = rowF cs y := by
        show (if v = y then _ else _) + _ = _
        rw [if_neg hv, Nat.zero_add]
      rw [e]
      refine ⟨h1, fun j hj => ?_⟩
      rw [h2 j hj]
      refine decide_eq_decide.mpr ⟨List.mem_cons_of_mem _, fun h => ?_⟩
      rcases List.mem_cons.mp h with h | h
      · exact absurd (by injection h with _ h; exact h.symm) hv
      · exact h
theorem shl_one (x : Nat) (hx : x < 6) : dShl (.int 1) (.int (x : Int)) = some (.int ((2 ^ x : Nat) : Int)) := by
  rcases (show x = 0 ∨ x = 1 ∨ x = 2 ∨ x = 3 ∨ x = 4 ∨ x = 5 by omega) with rfl | rfl | rfl | rfl | rfl | rfl
  · kernel_rfl
  · kernel_rfl
  · kernel_rfl
  · kernel_rfl
  · kernel_rfl
  · kernel_rfl
def rowsL (cs : List (Int × Int)) (H : Nat) : List D := (List.range H).map fun y : Nat => D.int ((rowF cs (y : Int) : Nat) : Int)
theorem ixN_nat {n y : Nat} (h : y < n) : ixN n (y : Int) = some y := by
  unfold ixN
  rw [if_pos (by omega), if_pos (by omega), Int.toNat_natCast]
theorem rows_is (W H : Nat) (hH : H ≤ 20) (cs : List (Int × Int)) (hl : cs.length ≤ 100) (hc : ∀ c ∈ cs, (0 ≤ c.1 ∧ c.1 < 6) ∧ 0 ≤ c.2 ∧ c.2 < H) : f_rows_of [.tup [.int (W : Int), .int (H : Int)], cells cs] = .ok (.lst (rowsL cs H)) [] := by
  obtain ⟨ρ', e, s3, s4, rfl⟩ := for_list (g := gsTup 2 (gsCons (gSet 4) (gsCons (gSet 3) gsNil))) (body := b_rows_of_1) (e := cellP) (fun i ρ => ∃ s3 s4, ρ = [.val (.tup [.int (W : Int), .int (H : Int)]), .rd (cells cs), .own (.lst (rowsL (cs.take i) H)), s3, s4]) (l := cs) (ρ := [.val (.tup [.int (W : Int), .int (H : Int)]), .rd (cells cs), .own (.lst (rowsL [] H)), .emp, .emp]) ⟨_, _, rfl⟩ (fun i p ρ hi hρ => by
    obtain ⟨s3, s4, rfl⟩ := hρ
    have hp := hc p (List.mem_of_getElem? hi)
    obtain ⟨x, y⟩ := p
    obtain ⟨n, rfl⟩ := Int.eq_ofNat_of_zero_le hp.1.1
    obtain ⟨m, rfl⟩ := Int.eq_ofNat_of_zero_le hp.2.1
    simp only at hp
    refine ⟨_, rfl, ?_⟩
    have hs := shl_one n (by omega)
    have ha : atI (rowsL (cs.take i) H) (m : Int) = some (.int ((rowF (cs.take i) (m : Int) : Nat) : Int)) := at_map (fun y : Nat => D.int ((rowF (cs.take i) (y : Int) : Nat) : Int)) (by omega)
    have hx : ixN (rowsL (cs.take i) H).length (m : Int) = some m := ixN_nat (by unfold rowsL; rw [List.length_map, List.length_range]; omega)
    have hset : (rowsL (cs.take i) H).set m (.int (((rowF (cs.take i) (m : Int) : Nat) : Int) + ((2 ^ n : Nat) : Int))) = rowsL (cs.take (i + 1)) H := by
      rw [take_snoc hi]
      unfold rowsL
      refine List.ext_getElem? fun j => ?_
      rw [List.getElem?_set, List.getElem?_map, List.getElem?_map]
      by_cases hj : j < H
      · rw [List.getElem?_range hj]
        simp only [Option.map_some, List.length_map, List.length_range]
        rw [rowF_snoc]
        by_cases hm : m = j
        · subst hm
          rw [if_pos rfl, if_pos hj, if_pos rfl, Int.toNat_natCast, Int.natCast_add]
        · rw [if_neg hm, if_neg (by simp only; omega), Nat.add_zero]
      · rw [List.getElem?_eq_none (by rw [List.length_range]; omega)]
        simp only [List.length_map, List.length_range]
        by_cases hm : m = j
        · omega
        · rw [if_neg hm]
          rfl
    unfold b_rows_of_1
    generalize rowsL (cs.take (i + 1)) H = R2 at hset ⊢
    generalize rowsL (cs.take i) H = R1 at ha hx hset ⊢
    simp! [cells, cellP, hs, ha, hx, hset]
    exact ⟨_, .inl rfl, _, _, rfl⟩)
  rw [List.take_length] at e
  have run : lcRun (gSet 3) xYes (xC (.int 0)) [3] (rangeD 0 H) [] [.val (.tup [.int (W : Int), .int (H : Int)]), .rd (cells cs), .emp, .emp, .emp] = .ok (rowsL [] H) [.val (.tup [.int (W : Int), .int (H : Int)]), .rd (cells cs), .emp, .emp, .emp] := by
    have h := lcMap (g := gSet 3) (tt := xYes) (te := xC (.int 0)) (vs := [3]) (ρ := [.val (.tup [.int (W : Int), .int (H : Int)]), .rd (cells cs), .emp, .emp, .emp]) (e1 := fun j : Nat => D.int (0 + (j : Int))) (fun j : Nat => D.int ((rowF [] (j : Int) : Nat) : Int)) id (l := List.range H) (fun j hj => by
      simp! [id]
      rfl)
    rw [List.map_id] at h
    exact h
  have hr : inR (H : Int) = true := inR_of (by omega)
  have hz : (rangeD 0 H).length ≤ sizeLine := by rw [rangeD_len]; exact szn (by omega)
  have hT : ((H : Int)).toNat = H := Int.toNat_natCast H
  unfold f_rows_of b_rows_of
  simp! [cells] at e run ⊢
  simp! [hr, hz, hT, run, e]
def Size (w h : Nat) : Prop := (w = 1 ∧ 1 ≤ h ∧ h ≤ 6) ∨ (w = 2 ∧ 1 ≤ h ∧ h ≤ 4) ∨ (w = 3 ∧ 1 ≤ h ∧ h ≤ 3)
theorem Size.w {w h : Nat} (z : Size w h) : w = 1 ∨ w = 2 ∨ w = 3 := by unfold Size at z; omega
theorem Size.h {w h : Nat} (z : Size w h) : 1 ≤ h ∧ h ≤ 6 := by unfold Size at z; omega
theorem Size.mul {w h : Nat} (z : Size w h) : dMul (.int (w : Int)) (.int (h : Int)) = some (.int ((w : Int) * (h : Int))) ∧ (w : Int) * (h : Int) ≤ 9 := by
  have hh := z.h
  unfold Size at z
  rcases z with ⟨rfl, z⟩ | ⟨rfl, z⟩ | ⟨rfl, z⟩
  · have m : CMulA (1 : Int) (h : Int) := CMulA.l _ ⟨by decide, by decide⟩
    exact ⟨by simp! [m], by omega⟩
  · have m : CMulA (2 : Int) (h : Int) := CMulA.l _ ⟨by decide, by decide⟩
    exact ⟨by simp! [m], by omega⟩
  · have m : CMulA (3 : Int) (h : Int) := CMulA.l _ ⟨by decide, by decide⟩
    exact ⟨by simp! [m], by omega⟩
def inBox (w h : Int) (c : Int × Int) : Bool := decide (0 ≤ c.1) && decide (c.1 < w) && (decide (0 ≤ c.2) && decide (c.2 < h))
theorem ask_is {w h : Nat} (z : Size w h) (live : List (Int × Int)) : f_ask_father_box [.tup [.int (w : Int), .int (h : Int)], cells live] = if live.all (inBox w h) = true then .ok .non [] else .exc "Outside" [] := by
  have hm := z.mul
  have hh := z.h
  have hw := z.w
  obtain ⟨M, hM⟩ : ∃ M : Int, (w : Int) * (h : Int) = M := ⟨_, rfl⟩
  rw [hM] at hm
  obtain ⟨Wi, hW⟩ : ∃ Wi : Int, (w : Int) = Wi := ⟨_, rfl⟩
  obtain ⟨Hi, hH⟩ : ∃ Hi : Int, (h : Int) = Hi := ⟨_, rfl⟩
  rw [hW, hH] at hm ⊢
  have run : ∀ (l : List (Int × Int)) (s2 s3 : Slot), ∃ s2' s3', forRun (gsTup 2 (gsCons (gSet 2) (gsCons (gSet 3) gsNil))) b_ask_father_box_1 (l.map cellP) [.val (.tup [.int Wi, .int Hi]), .rd (cells live), s2, s3] = if l.all (inBox Wi Hi) = true then .nx [.val (.tup [.int Wi, .int Hi]), .rd (cells live), s2', s3'] else .exc "Outside" [.val (.tup [.int Wi, .int Hi]), .rd (cells live), s2', s3'] := by
    intro l
    induction l with
    | nil => exact fun s2 s3 => ⟨s2, s3, rfl⟩
    | cons c l ih =>
      intro s2 s3
      obtain ⟨x, y⟩ := c
      obtain ⟨t2, t3, e⟩ := ih (.val (.int x)) (.val (.int y))
      rw [List.map_cons, List.all_cons]
      have hstep : b_ask_father_box_1 [.val (.tup [.int Wi, .int Hi]), .rd (cells live), .val (.int x), .val (.int y)] = if inBox Wi Hi (x, y) = true then .nx [.val (.tup [.int Wi, .int Hi]), .rd (cells live), .val (.int x), .val (.int y)] else .exc "Outside" [.val (.tup [.int Wi, .int Hi]), .rd (cells live), .val (.int x), .val (.int y)] := by
        unfold b_ask_father_box_1 inBox
        by_cases h1 : x < 0
        · have h1' : ¬ 0 ≤ x := by omega
          simp! [h1, h1', Bool.false_and]
        · have h1' : 0 ≤ x := by omega
          by_cases h2 : Wi ≤ x
          · have h2' : ¬ x < Wi := by omega
            simp! [h1, h1', h2, h2', Bool.false_and, Bool.and_false]
          · have h2' : x < Wi := by omega
            by_cases h3 : y < 0
            · have h3' : ¬ 0 ≤ y := by omega
              simp! [h1, h1', h2, h2', h3, h3', Bool.false_and, Bool.and_false]
            · have h3' : 0 ≤ y := by omega
              by_cases h4 : Hi ≤ y
              · have h4' : ¬ y < Hi := by omega
                simp! [h1, h1', h2, h2', h3, h3', h4, h4', Bool.false_and, Bool.and_false]
              · have h4' : y < Hi := by omega
                simp! [h1, h1', h2, h2', h3, h3', h4, h4', Bool.false_and, Bool.and_false]
      cases hb : inBox Wi Hi (x, y) with
      | true =>
        rw [hb, if_pos rfl] at hstep
        refine ⟨t2, t3, ?_⟩
        rw [zcK, Bool.true_and, ← e]
        simp! [cellP, hstep]
      | false =>
        rw [hb, if_neg (by decide)] at hstep
        refine ⟨.val (.int x), .val (.int y), ?_⟩
        rw [zcK, Bool.false_and, if_neg (by decide)]
        simp! [cellP, hstep]
  obtain ⟨s2, s3, e⟩ := run live .emp .emp
  have w1 : ∀ i : Int, f_is_whole [.int i] = .ok (.bl true) [] := fun i => by
    unfold f_is_whole b_is_whole
    simp! [zaa]
  have a1 : ¬ Wi < 1 := by omega
  have a2 : ¬ 3 < Wi := by omega
  have a3 : ¬ Hi < 1 := by omega
  have a4 : ¬ 6 < Hi := by omega
  have a5 : ¬ 9 < M := by omega
  unfold f_ask_father_box b_ask_father_box
  by_cases hb : live.all (inBox Wi Hi) = true
  · rw [if_pos hb] at e ⊢
    simp! [cells] at e ⊢
    simp! [w1, a1, a2, a3, a4, hm.1, a5, e]
  · rw [if_neg hb] at e ⊢
    simp! [cells] at e ⊢
    simp! [w1, a1, a2, a3, a4, hm.1, a5, e]
theorem rim_is {w h : Nat} (z : Size w h) {live : List (Int × Int)} (hl : live.length ≤ 100) (hb : live.all (inBox w h) = true) : f_rim_rows [.tup [.int (w : Int), .int (h : Int)], cells live] = .ok (.lst ((List.range h).map fun y : Nat => D.int ((2 * rowF live (y : Int) : Nat) : Int))) [] := by
  have hh := z.h
  have hw := z.w
  have e := rows_is w h (by omega) live hl (fun c hc => by
    have := List.all_eq_true.mp hb c hc
    unfold inBox at this
    simp only [Bool.and_eq_true, decide_eq_true_eq] at this
    omega)
  have run : lcRun (gSet 2) xYes (xOp2 dMul (xC (.int 2)) (xVar 2)) [2] (rowsL live h) [] [.val (.tup [.int (w : Int), .int (h : Int)]), .rd (cells live), .emp] = .ok ((List.range h).map fun y : Nat => D.int ((2 * rowF live (y : Int) : Nat) : Int)) [.val (.tup [.int (w : Int), .int (h : Int)]), .rd (cells live), .emp] := by
    have h := lcMap (g := gSet 2) (tt := xYes) (te := xOp2 dMul (xC (.int 2)) (xVar 2)) (vs := [2]) (ρ := [.val (.tup [.int (w : Int), .int (h : Int)]), .rd (cells live), .emp]) (e1 := fun y : Nat => D.int ((rowF live (y : Int) : Nat) : Int)) (fun y : Nat => D.int ((2 * rowF live (y : Int) : Nat) : Int)) id (l := List.range h) (fun j hj => by
      obtain ⟨R, hR⟩ : ∃ R : Int, ((rowF live (j : Int) : Nat) : Int) = R := ⟨_, rfl⟩
      have m : CMulA 2 R := CMulA.l _ ⟨by decide, by decide⟩
      rw [hR]
      simp! [m, id, Int.natCast_mul, hR])
    rw [List.map_id] at h
    exact h
  have hz : (rowsL live h).length ≤ sizeLine := by unfold rowsL; rw [List.length_map, List.length_range]; exact szn (by omega)
  unfold f_rim_rows b_rim_rows
  simp! [cells] at e run ⊢
  simp! [e, hz, run]
theorem meth_ok {c : String} {m : Str} {d : D} (h : isIns c m d = true) (g : DF) (t : XA) (ρ : Rho) : meth1 c m g t d ρ = (t ρ).bind (meth2 g d) := if_pos h
theorem enum_map (f : Nat → D) (t : Nat) : enumF 0 ((List.range t).map f) = (List.range t).map fun j : Nat => D.tup [.int (j : Int), f j] := by
  refine List.ext_getElem? fun j => ?_
  rw [enumF_get, Nat.zero_add, List.getElem?_map, List.getElem?_map]
  cases hj : (List.range t)[j]? with
  | none => rfl
  | some a =>
    have hlt := (List.getElem?_eq_some_iff.mp hj).1
    rw [List.length_range] at hlt
    rw [List.getElem?_range hlt] at hj
    rw [← Option.some.inj hj]
    rfl
theorem all_eq {α : Type} {f g : α → Bool} : ∀ {l : List α}, (∀ a ∈ l, f a = g a) → l.all f = l.all g
  | [], _ => rfl
  | a :: l, h => by rw [List.all_cons, List.all_cons, h a (List.mem_cons_self ..), all_eq fun b hb => h b (List.mem_cons_of_mem _ hb)]
theorem box_of {w h : Int} {c : Int × Int} (e : inBox w h c = true) : (0 ≤ c.1 ∧ c.1 < w) ∧ 0 ≤ c.2 ∧ c.2 < h := by
  unfold inBox at e
  simp only [Bool.and_eq_true, decide_eq_true_eq] at e
  exact e
theorem ins_many (k : Int) (bs ss : List Int) (w : Nat) : isIns "Triples" "many_rows" (tripD k bs ss w) = true := by kernel_rfl
theorem ins_open (k : Int) (bs ss : List Int) (w : Nat) : isIns "Triples" "open_counts" (tripD k bs ss w) = true := by kernel_rfl
theorem ins_fit (k : Int) (bs ss : List Int) (w : Nat) : isIns "Triples" "fitting" (tripD k bs ss w) = true := by kernel_rfl
theorem ins_above (k : Int) (bs ss : List Int) (w : Nat) : isIns "Triples" "above" (tripD k bs ss w) = true := by kernel_rfl
theorem ins_below (k : Int) (bs ss : List Int) (w : Nat) : isIns "Triples" "below" (tripD k bs ss w) = true := by kernel_rfl
theorem many_is (k : Int) (bs ss : List Int) (w : Nat) (hw : w ≤ 3) : f_Triples_many_rows [tripD k bs ss w] = .ok (.int ((2 ^ (w + 2) : Nat) : Int)) [] := by
  have f3 := fld_tabs k bs ss w
  have hl : dLen [tabD k (-1) w] = some (.int ((2 ^ (w + 2) : Nat) : Int)) := by
    show some (D.int (((List.range (2 ^ (w + 2))).map _).length : Nat)) = _
    rw [List.length_map, List.length_range]
  generalize tripD k bs ss w = TT at f3 ⊢
  generalize tabD k (-1) w = T1 at f3 hl
  generalize tabD k 0 w = T2 at f3
  generalize tabD k 1 w = T3 at f3
  unfold f_Triples_many_rows b_Triples_many_rows
  simp! [f3, hl]
/-- what a column may still have -/
def openL (bs ss : List Int) (two due : Nat) (b : Int) (j : Nat) : List Int := (intsL 0 4).filter fun c => decide (b + c ∈ if two.testBit (1 + j) = true then ss else bs) == due.testBit (1 + j)
def wantD (bs ss : List Int) (two due : Nat) (f : Nat → Int) (w : Nat) : List D := (List.range w).map fun j : Nat => .lst ((openL bs ss two due (f j) j).map D.int)
theorem open_is {k : Int} (bs ss : List Int) {w : Nat} (hw : w = 1 ∨ w = 2 ∨ w = 3) {two due : Nat} (h2 : two < 2 ^ (w + 2)) (hd : due < 32) (f : Nat → Int) : f_Triples_open_counts [tripD k bs ss w, .lst ((List.range w).map fun j : Nat => D.int (f j)), .int (two : Int), .int (due : Int)] = .ok (.lst (wantD bs ss two due (fun j => f j + (rowC k 0 two (1 + (j : Int)) : Nat)) w)) [] := by
  have h32 : 2 ^ (w + 2) ≤ 32 := by rcases hw with rfl | rfl | rfl <;> decide
  have hw3 : w ≤ 3 := by omega
  obtain ⟨ρ', e, s5, s6, s7, s8, s9, rfl⟩ := for_list (g := gsTup 2 (gsCons (gSet 5) (gsCons (gSet 6) gsNil))) (body := b_Triples_open_counts_1) (e := fun j : Nat => D.tup [.int (j : Int), .int (1 + (j : Int))])
    (fun i ρ => ∃ s5 s6 s7 s8 s9, ρ = [.val (tripD k bs ss w), .val (.lst ((List.range w).map fun j : Nat => D.int (f j))), .val (.int (two : Int)), .val (.int (due : Int)), .own (.lst (wantD bs ss two due (fun j => f j + (rowC k 0 two (1 + (j : Int)) : Nat)) i)), s5, s6, s7, s8, s9, .emp]) (l := List.range w)
    (ρ := [.val (tripD k bs ss w), .val (.lst ((List.range w).map fun j : Nat => D.int (f j))), .val (.int (two : Int)), .val (.int (due : Int)), .own (.lst []), .emp, .emp, .emp, .emp, .emp, .emp]) ⟨_, _, _, _, _, rfl⟩ (fun i j ρ hi hρ => by
      obtain ⟨s5, s6, s7, s8, s9, rfl⟩ := hρ
      have hlt := (List.getElem?_eq_some_iff.mp hi).1
      rw [List.length_range] at hlt
      rw [List.getElem?_range hlt] at hi
      obtain rfl := Option.some.inj hi
      refine ⟨_, rfl, ?_⟩
      have t2 := tab_at k 0 w h2
      have r2 := row_at k 0 w two hlt
      have c1 := hasc (r := two) (x := 1 + i) (by omega) (by omega)
      have c2 := hasc (r := due) (x := 1 + i) (by omega) (by omega)
      have q : (((1 + i : Nat)) : Int) = 1 + (i : Int) := by omega
      rw [q] at c1 c2
      have f1 := fld_rule k bs ss w
      have f3 := fld_tabs k bs ss w
      have a1 : atI ((List.range w).map fun j : Nat => D.int (f j)) (i : Int) = some (.int (f i)) := at_map (fun j : Nat => D.int (f j)) hlt
      obtain ⟨b, hb⟩ : ∃ b : Int, f i + (rowC k 0 two (1 + (i : Int)) : Nat) = b := ⟨_, rfl⟩
      have hs : wantD bs ss two due (fun j => f j + (rowC k 0 two (1 + (j : Int)) : Nat)) (i + 1) = wantD bs ss two due (fun j => f j + (rowC k 0 two (1 + (j : Int)) : Nat)) i ++ [.lst ((openL bs ss two due b i).map D.int)] := by
        unfold wantD
        rw [List.range_succ, List.map_append, ← hb]
        rfl
      have hz : (wantD bs ss two due (fun j => f j + (rowC k 0 two (1 + (j : Int)) : Nat)) i).length < sizeLine := by
        unfold wantD
        rw [List.length_map, List.length_range]
        exact szBl (by omega)
      rw [hs]
      have run : ∀ (TT A W : D), dFld "Triples" "by_rule" TT = some (ruleD k bs ss) → lcRun (gSet 10) (xTest (xOp2 dEq (xCall f_comes (xCons (xOp1 (dFld "Triples" "by_rule") (xVar 0)) (xCons (xVar 9) (xCons (xOp2 dAdd (xVar 7) (xVar 10)) xNil)))) (xVar 8))) (xVar 10) [10] (rangeD 0 4) [] [.val TT, .val A, .val (.int (two : Int)), .val (.int (due : Int)), .own W, .val (.int (i : Int)), .val (.int (1 + (i : Int))), .val (.int b), .val (.bl (due.testBit (1 + i))), .val (.bl (two.testBit (1 + i))), .emp] = .ok ((openL bs ss two due b i).map D.int) [.val TT, .val A, .val (.int (two : Int)), .val (.int (due : Int)), .own W, .val (.int (i : Int)), .val (.int (1 + (i : Int))), .val (.int b), .val (.bl (due.testBit (1 + i))), .val (.bl (two.testBit (1 + i))), .emp] := fun TT A W fT => by
        have hr : rangeD 0 4 = (intsL 0 4).map D.int := by unfold intsL; rw [List.map_map]; rfl
        rw [hr]
        have hq := lcFilt (g := gSet 10) (tt := xTest (xOp2 dEq (xCall f_comes (xCons (xOp1 (dFld "Triples" "by_rule") (xVar 0)) (xCons (xVar 9) (xCons (xOp2 dAdd (xVar 7) (xVar 10)) xNil)))) (xVar 8))) (te := xVar 10) (vs := [10]) (ρ := [.val TT, .val A, .val (.int (two : Int)), .val (.int (due : Int)), .own W, .val (.int (i : Int)), .val (.int (1 + (i : Int))), .val (.int b), .val (.bl (due.testBit (1 + i))), .val (.bl (two.testBit (1 + i))), .emp]) (e1 := D.int) D.int (fun c => decide (b + c ∈ if two.testBit (1 + i) = true then ss else bs) == due.testBit (1 + i)) id (l := intsL 0 4) (fun c _ => by
          have ec := comes_is k (b + c) bs ss (two.testBit (1 + i))
          generalize two.testBit (1 + i) = tb at ec ⊢
          generalize due.testBit (1 + i) = db at ec ⊢
          generalize decide (b + c ∈ if tb = true then ss else bs) = R at ec ⊢
          generalize ruleD k bs ss = RD at ec fT
          cases hR : R == db with
          | true => simp! [fT, ec, hR, id]
          | false => simp! [fT, ec, hR])
        rw [List.map_id] at hq
        exact hq
      have run := run (tripD k bs ss w) (.lst ((List.range w).map fun j : Nat => D.int (f j))) (.lst (wantD bs ss two due (fun j => f j + (rowC k 0 two (1 + (j : Int)) : Nat)) i)) f1
      have hz4 : (rangeD 0 4).length ≤ sizeLine := by rw [rangeD_len]; exact szn (by omega)
      have hz5 : ((openL bs ss two due b i).map D.int).length ≤ sizeLine := by
        rw [List.length_map]
        unfold openL
        exact szn (Nat.le_trans (List.length_filter_le _ _) (by decide))
      generalize (openL bs ss two due b i).map D.int = OL at run hz5 ⊢
      generalize wantD bs ss two due (fun j => f j + (rowC k 0 two (1 + (j : Int)) : Nat)) i = WL at run hz ⊢
      generalize (List.range w).map (fun j : Nat => D.int (f j)) = SL at run a1 ⊢
      generalize tripD k bs ss w = TT at run f3 ⊢
      generalize tabD k (-1) w = T1 at f3
      generalize tabD k 0 w = T2 at t2 f3
      generalize tabD k 1 w = T3 at f3
      unfold b_Triples_open_counts_1
      simp! [zaa] at t2 r2 c1 c2 run ⊢
      simp! [f3, a1, t2, r2, hb, c1, c2, zcB, hz4, run, hz5, hz]
      exact ⟨_, .inl rfl, _, _, _, _, _, rfl⟩)
  have en : enumF 0 ((List.range w).map fun j : Nat => D.int (1 + (j : Int))) = (List.range w).map fun j : Nat => D.tup [.int (j : Int), .int (1 + (j : Int))] := enum_map (fun j : Nat => D.int (1 + (j : Int))) w
  have f2 := fld_look k bs ss w
  rw [List.length_range] at e
  unfold f_Triples_open_counts b_Triples_open_counts
  simp! [f2, lookD, en, e]
theorem bools_map {α : Type} (f : α → Bool) (l : List α) : dBools (l.map fun a => D.bl (f a)) = some (l.map f) := by
  induction l with
  | nil => rfl
  | cons a l ih =>
    show (dBools (l.map fun a => D.bl (f a))).map _ = _
    rw [ih]
    rfl
theorem all_map {α : Type} (f : α → Bool) (l : List α) : dAll [.lst (l.map fun a => D.bl (f a))] = some (.bl (l.all f)) := by
  show (dBools (l.map fun a => D.bl (f a))).map _ = _
  rw [bools_map]
  show some (D.bl _) = _
  rw [List.all_map]
  rfl
theorem filt1 {α β : Type} (p : α → Bool) (f : α → β) (i : α) : ([i].filter p).map f = if p i = true then [f i] else [] := by
  by_cases hc : p i = true
  · rw [if_pos hc, List.filter_cons_of_pos hc]
    rfl
  · rw [if_neg hc, List.filter_cons_of_neg hc]
    rfl
theorem zip_self {α : Type} : ∀ l : List α, l.zip l = l.map fun a => (a, a)
  | [] => rfl
  | a :: l => by rw [List.zip_cons_cons, List.map_cons, zip_self l]
def fitL (k step : Int) (w : Nat) (W : Nat → List Int) : List Nat := (List.range (2 ^ (w + 2))).filter fun r => (List.range w).all fun j => decide (((rowC k step r (1 + (j : Int)) : Nat) : Int) ∈ W j)
theorem fit_is (T : D) {k step : Int} {w : Nat} (hw : w = 1 ∨ w = 2 ∨ w = 3) (W : Nat → List Int) : f_Triples_fitting [T, tabD k step w, .lst ((List.range w).map fun j : Nat => .lst ((W j).map D.int))] = .ok (.lst ((fitL k step w W).map fun r : Nat => D.int (r : Int))) [] := by
  have h32 : 2 ^ (w + 2) ≤ 32 := by rcases hw with rfl | rfl | rfl <;> decide
  have hw3 : w ≤ 3 := by omega
  have hin : inD (.lst []) (.lst ((List.range w).map fun j : Nat => D.lst ((W j).map D.int))) = some (decide ([] ∈ (List.range w).map W)) := by
    have := inD_enc (α := List Int) (by decide) [] ((List.range w).map W)
    rw [List.map_map] at this
    exact this
  by_cases h0 : [] ∈ (List.range w).map W
  · have hf : fitL k step w W = [] := by
      unfold fitL
      rw [List.filter_eq_nil_iff]
      intro r _ hc
      obtain ⟨j, hj, e⟩ := List.mem_map.mp h0
      have := List.all_eq_true.mp hc j hj
      rw [e] at this
      simp at this
    rw [decide_eq_true h0] at hin
    rw [hf]
    unfold f_Triples_fitting b_Triples_fitting
    simp! [hin, List.map_nil]
  · rw [decide_eq_false h0] at hin
    obtain ⟨ρ', e, s4, s5, s6, s7, h6, h7, rfl⟩ := for_list (g := gsTup 2 (gsCons (gSet 4) (gsCons (gSet 5) gsNil))) (body := b_Triples_fitting_1) (e := fun r : Nat => D.tup [.int (r : Int), .lst ((List.range w).map fun j : Nat => .int ((rowC k step r (1 + (j : Int)) : Nat) : Int))])
      (fun i ρ => ∃ s4 s5 s6 s7, notOwn (some s6) = true ∧ notOwn (some s7) = true ∧ ρ = [.val T, .val (tabD k step w), .val (.lst ((List.range w).map fun j : Nat => .lst ((W j).map D.int))), .own (.lst ((((List.range i).filter fun r => (List.range w).all fun j => decide (((rowC k step r (1 + (j : Int)) : Nat) : Int) ∈ W j)).map fun r : Nat => D.int (r : Int)))), s4, s5, s6, s7]) (l := List.range (2 ^ (w + 2)))
      (ρ := [.val T, .val (tabD k step w), .val (.lst ((List.range w).map fun j : Nat => .lst ((W j).map D.int))), .own (.lst []), .emp, .emp, .emp, .emp]) ⟨_, _, _, _, rfl, rfl, rfl⟩ (fun i r ρ hi hρ => by
        obtain ⟨s4, s5, s6, s7, h6, h7, rfl⟩ := hρ
        have hlt := (List.getElem?_eq_some_iff.mp hi).1
        rw [List.length_range] at hlt
        rw [List.getElem?_range hlt] at hi
        obtain rfl := Option.some.inj hi
        refine ⟨_, rfl, ?_⟩
        have run : ∀ (A B C : D), lcRun (gsTup 2 (gsCons (gSet 6) (gsCons (gSet 7) gsNil))) xYes (xOp2 dInX (xVar 6) (xVar 7)) [6, 7] ((List.range w).map fun j : Nat => D.tup [.int ((rowC k step i (1 + (j : Int)) : Nat) : Int), .lst ((W j).map D.int)]) [] [.val T, .val A, .val B, .own C, .val (.int (i : Int)), .val (.lst ((List.range w).map fun j : Nat => .int ((rowC k step i (1 + (j : Int)) : Nat) : Int))), s6, s7] = .ok ((List.range w).map fun j => D.bl (decide (((rowC k step i (1 + (j : Int)) : Nat) : Int) ∈ W j))) [.val T, .val A, .val B, .own C, .val (.int (i : Int)), .val (.lst ((List.range w).map fun j : Nat => .int ((rowC k step i (1 + (j : Int)) : Nat) : Int))), s6, s7] := fun A B C => by
          generalize D.lst ((List.range w).map fun j : Nat => D.int ((rowC k step i (1 + (j : Int)) : Nat) : Int)) = RW
          have hq := lcMap (g := gsTup 2 (gsCons (gSet 6) (gsCons (gSet 7) gsNil))) (tt := xYes) (te := xOp2 dInX (xVar 6) (xVar 7)) (vs := [6, 7]) (ρ := [.val T, .val A, .val B, .own C, .val (.int (i : Int)), .val RW, s6, s7]) (e1 := fun j : Nat => D.tup [.int ((rowC k step i (1 + (j : Int)) : Nat) : Int), .lst ((W j).map D.int)]) (fun j : Nat => D.bl (decide (((rowC k step i (1 + (j : Int)) : Nat) : Int) ∈ W j))) id (l := List.range w) (fun j _ => by
            have := inD_enc (α := Int) (by decide) ((rowC k step i (1 + (j : Int)) : Nat) : Int) (W j)
            have hI : inD (.int ((rowC k step i (1 + (j : Int)) : Nat) : Int)) (.lst ((W j).map D.int)) = some (decide (((rowC k step i (1 + (j : Int)) : Nat) : Int) ∈ W j)) := this
            show _ = Res.ok (some (D.bl (decide (((rowC k step i (1 + (j : Int)) : Nat) : Int) ∈ W j)))) _
            generalize ((rowC k step i (1 + (j : Int)) : Nat) : Int) = C at hI ⊢
            simp! [hI, id])
          rw [List.map_id] at hq
          exact hq
        have hz : ((List.range w).map fun j : Nat => D.tup [.int ((rowC k step i (1 + (j : Int)) : Nat) : Int), .lst ((W j).map D.int)]).length ≤ sizeLine := by rw [List.length_map, List.length_range]; exact szn (by omega)
        have hz1 : ((List.range w).map fun j => D.bl (decide (((rowC k step i (1 + (j : Int)) : Nat) : Int) ∈ W j))).length ≤ sizeLine := by rw [List.length_map, List.length_range]; exact szn (by omega)
        have hzip : zipF ((List.range w).map fun j : Nat => D.int ((rowC k step i (1 + (j : Int)) : Nat) : Int)) ((List.range w).map fun j : Nat => D.lst ((W j).map D.int)) = (List.range w).map fun j : Nat => D.tup [.int ((rowC k step i (1 + (j : Int)) : Nat) : Int), .lst ((W j).map D.int)] := by
          rw [zipF_map, zip_self, List.map_map]
          rfl
        have ha := all_map (fun j => decide (((rowC k step i (1 + (j : Int)) : Nat) : Int) ∈ W j)) (List.range w)
        have hz2 : (((List.range i).filter fun r => (List.range w).all fun j => decide (((rowC k step r (1 + (j : Int)) : Nat) : Int) ∈ W j)).map fun r : Nat => D.int (r : Int)).length < sizeLine := by
          rw [List.length_map]
          have := List.length_filter_le (fun r => (List.range w).all fun j => decide (((rowC k step r (1 + (j : Int)) : Nat) : Int) ∈ W j)) (List.range i)
          rw [List.length_range] at this
          exact szBl (by omega)
        have hs : ((List.range (i + 1)).filter fun r => (List.range w).all fun j => decide (((rowC k step r (1 + (j : Int)) : Nat) : Int) ∈ W j)).map (fun r : Nat => D.int (r : Int)) = (((List.range i).filter fun r => (List.range w).all fun j => decide (((rowC k step r (1 + (j : Int)) : Nat) : Int) ∈ W j)).map fun r : Nat => D.int (r : Int)) ++ (if (List.range w).all (fun j => decide (((rowC k step i (1 + (j : Int)) : Nat) : Int) ∈ W j)) = true then [.int (i : Int)] else []) := by
          rw [List.range_succ, List.filter_append, List.map_append]
          congr 1
          exact filt1 (fun r => (List.range w).all fun j => decide (((rowC k step r (1 + (j : Int)) : Nat) : Int) ∈ W j)) (fun r : Nat => D.int (r : Int)) i
        rw [hs]
        have run := run (tabD k step w) (.lst ((List.range w).map fun j : Nat => .lst ((W j).map D.int))) (.lst ((((List.range i).filter fun r => (List.range w).all fun j => decide (((rowC k step r (1 + (j : Int)) : Nat) : Int) ∈ W j)).map fun r : Nat => D.int (r : Int))))
        generalize (((List.range i).filter fun r => (List.range w).all fun j => decide (((rowC k step r (1 + (j : Int)) : Nat) : Int) ∈ W j)).map fun r : Nat => D.int (r : Int)) = FL at run hz2 ⊢
        generalize (List.range w).map (fun j => D.bl (decide (((rowC k step i (1 + (j : Int)) : Nat) : Int) ∈ W j))) = BL at run hz1 ha
        generalize (List.range w).map (fun j : Nat => D.tup [.int ((rowC k step i (1 + (j : Int)) : Nat) : Int), .lst ((W j).map D.int)]) = ZL at run hz hzip
        generalize (List.range w).map (fun j : Nat => D.lst ((W j).map D.int)) = WL at run hzip ⊢
        generalize (List.range w).map (fun j : Nat => D.int ((rowC k step i (1 + (j : Int)) : Nat) : Int)) = RL at run hzip ⊢
        generalize tabD k step w = TB at run ⊢
        unfold b_Triples_fitting_1
        cases hc : (List.range w).all fun j => decide (((rowC k step i (1 + (j : Int)) : Nat) : Int) ∈ W j) with
        | true =>
          rw [hc] at ha
          simp! [hzip, hz, h6, h7, run, hz1, ha, hz2]
          exact ⟨_, .inl rfl, _, _, _, _, h6, h7, rfl⟩
        | false =>
          rw [hc] at ha
          simp! [hzip, hz, h6, h7, run, hz1, ha]
          exact ⟨_, .inl rfl, _, _, _, _, h6, h7, rfl⟩)
    have en : dEnum (tabD k step w) = some ((List.range (2 ^ (w + 2))).map fun r : Nat => D.tup [.int (r : Int), .lst ((List.range w).map fun j : Nat => .int ((rowC k step r (1 + (j : Int)) : Nat) : Int))]) := by
      show some (enumF 0 _) = _
      rw [enum_map]
    rw [List.length_range] at e
    have hR : fitL k step w W = (List.range (2 ^ (w + 2))).filter fun r => (List.range w).all fun j => decide (((rowC k step r (1 + (j : Int)) : Nat) : Int) ∈ W j) := rfl
    rw [← hR] at e
    generalize (fitL k step w W).map (fun r : Nat => D.int (r : Int)) = FL at e ⊢
    generalize (List.range (2 ^ (w + 2))).map (fun r : Nat => D.tup [.int (r : Int), .lst ((List.range w).map fun j : Nat => .int ((rowC k step r (1 + (j : Int)) : Nat) : Int))]) = EL at e en
    generalize (List.range w).map (fun j : Nat => D.lst ((W j).map D.int)) = WL at e hin ⊢
    generalize tabD k step w = TB at e en ⊢
    unfold f_Triples_fitting b_Triples_fitting
    simp! [hin, en, e]
theorem rowC_le (k step : Int) (r : Nat) (x : Int) (hs : step = -1 ∨ step = 0 ∨ step = 1) : rowC k step r x ≤ 3 := by
  have h : rowC k step r x ≤ (near k).countP fun d => decide (d.2 = step) := by
    unfold rowC
    exact List.countP_mono_left fun d _ h => by
      simp only [Bool.and_eq_true] at h
      exact h.1
  refine Nat.le_trans h ?_
  have n : near k = N4 ∨ near k = N6 ∨ near k = N8 := by
    rcases near_or k with h | ⟨h | h, _⟩
    · exact .inr (.inl h.1)
    · exact .inl h
    · exact .inr (.inr h)
  rcases n with h | h | h <;> rw [h] <;> rcases hs with rfl | rfl | rfl <;> decide
theorem open_mem (bs ss : List Int) (two due : Nat) (b : Int) (j n : Nat) (hn : n ≤ 3) : decide ((n : Int) ∈ openL bs ss two due b j) = (decide (b + (n : Int) ∈ if two.testBit (1 + j) = true then ss else bs) == due.testBit (1 + j)) := by
  unfold openL
  have h1 : (n : Int) ∈ intsL 0 4 := by
    unfold intsL
    exact List.mem_map.mpr ⟨n, List.mem_range.mpr (by omega), by omega⟩
  cases hc : (decide (b + (n : Int) ∈ if two.testBit (1 + j) = true then ss else bs) == due.testBit (1 + j)) with
  | true => exact decide_eq_true (List.mem_filter.mpr ⟨h1, hc⟩)
  | false =>
    refine decide_eq_false fun h => ?_
    have := (List.mem_filter.mp h).2
    rw [hc] at this
    cases this
def aboveL (k : Int) (bs ss : List Int) (w two three due : Nat) : List Nat := (List.range (2 ^ (w + 2))).filter fun one => shownB k bs ss w one two three due
def belowL (k : Int) (bs ss : List Int) (w one two due : Nat) : List Nat := (List.range (2 ^ (w + 2))).filter fun three => shownB k bs ss w one two three due
theorem above_fit (k : Int) (bs ss : List Int) (w two three due : Nat) : fitL k (-1) w (fun j => openL bs ss two due (((rowC k 1 three (1 + (j : Int)) : Nat) : Int) + (rowC k 0 two (1 + (j : Int)) : Nat)) j) = aboveL k bs ss w two three due := by
  unfold fitL aboveL
  refine List.filter_congr fun one _ => ?_
  unfold shownB
  refine all_eq fun j _ => ?_
  rw [open_mem _ _ _ _ _ _ _ (rowC_le _ _ _ _ (.inl rfl))]
  unfold cellB
  rw [show ((rowC k 1 three (1 + (j : Int)) : Nat) : Int) + (rowC k 0 two (1 + (j : Int)) : Nat) + (rowC k (-1) one (1 + (j : Int)) : Nat) = ((rowC k (-1) one (((1 + j : Nat)) : Int) + rowC k 0 two (((1 + j : Nat)) : Int) + rowC k 1 three (((1 + j : Nat)) : Int) : Nat) : Int) by
    rw [show (((1 + j : Nat)) : Int) = 1 + (j : Int) by omega]
    omega]
theorem below_fit (k : Int) (bs ss : List Int) (w one two due : Nat) : fitL k 1 w (fun j => openL bs ss two due (((rowC k (-1) one (1 + (j : Int)) : Nat) : Int) + (rowC k 0 two (1 + (j : Int)) : Nat)) j) = belowL k bs ss w one two due := by
  unfold fitL belowL
  refine List.filter_congr fun three _ => ?_
  unfold shownB
  refine all_eq fun j _ => ?_
  rw [open_mem _ _ _ _ _ _ _ (rowC_le _ _ _ _ (.inr (.inr rfl)))]
  unfold cellB
  rw [show ((rowC k (-1) one (1 + (j : Int)) : Nat) : Int) + (rowC k 0 two (1 + (j : Int)) : Nat) + (rowC k 1 three (1 + (j : Int)) : Nat) = ((rowC k (-1) one (((1 + j : Nat)) : Int) + rowC k 0 two (((1 + j : Nat)) : Int) + rowC k 1 three (((1 + j : Nat)) : Int) : Nat) : Int) by
    rw [show (((1 + j : Nat)) : Int) = 1 + (j : Int) by omega]
    omega]
def natsD (l : List Nat) : D := .lst (l.map fun r : Nat => D.int (r : Int))
theorem above_is {k : Int} (bs ss : List Int) {w : Nat} (hw : w = 1 ∨ w = 2 ∨ w = 3) {two three due : Nat} (h2 : two < 2 ^ (w + 2)) (h3 : three < 2 ^ (w + 2)) (hd : due < 32) : f_Triples_above [tripD k bs ss w, .int (two : Int), .int (three : Int), .int (due : Int)] = .ok (natsD (aboveL k bs ss w two three due)) [] := by
  have eo := open_is (k := k) bs ss hw h2 hd (fun j => ((rowC k 1 three (1 + (j : Int)) : Nat) : Int))
  have ef := fit_is (tripD k bs ss w) (k := k) (step := -1) hw (fun j => openL bs ss two due (((rowC k 1 three (1 + (j : Int)) : Nat) : Int) + (rowC k 0 two (1 + (j : Int)) : Nat)) j)
  rw [above_fit] at ef
  have t3 := tab_at k 1 w h3
  have f3 := fld_tabs k bs ss w
  have i1 := ins_open k bs ss w
  have i2 := ins_fit k bs ss w
  unfold wantD at eo
  unfold natsD
  generalize (List.range w).map (fun j : Nat => D.lst ((openL bs ss two due (((rowC k 1 three (1 + (j : Int)) : Nat) : Int) + (rowC k 0 two (1 + (j : Int)) : Nat)) j).map D.int)) = WL at eo ef
  generalize (List.range w).map (fun j : Nat => D.int ((rowC k 1 three (1 + (j : Int)) : Nat) : Int)) = SL at eo t3
  generalize tripD k bs ss w = TT at eo ef f3 i1 i2 ⊢
  generalize tabD k (-1) w = T1 at ef f3
  generalize tabD k 0 w = T2 at f3
  generalize tabD k 1 w = T3 at t3 f3
  unfold f_Triples_above b_Triples_above
  simp! [zaa] at t3 ⊢
  simp! [f3, t3, meth_ok i1, meth_ok i2, eo, ef]
theorem below_is {k : Int} (bs ss : List Int) {w : Nat} (hw : w = 1 ∨ w = 2 ∨ w = 3) {one two due : Nat} (h1 : one < 2 ^ (w + 2)) (h2 : two < 2 ^ (w + 2)) (hd : due < 32) : f_Triples_below [tripD k bs ss w, .int (one : Int), .int (two : Int), .int (due : Int)] = .ok (natsD (belowL k bs ss w one two due)) [] := by
  have eo := open_is (k := k) bs ss hw h2 hd (fun j => ((rowC k (-1) one (1 + (j : Int)) : Nat) : Int))
  have ef := fit_is (tripD k bs ss w) (k := k) (step := 1) hw (fun j => openL bs ss two due (((rowC k (-1) one (1 + (j : Int)) : Nat) : Int) + (rowC k 0 two (1 + (j : Int)) : Nat)) j)
  rw [below_fit] at ef
  have t3 := tab_at k (-1) w h1
  have f3 := fld_tabs k bs ss w
  have i1 := ins_open k bs ss w
  have i2 := ins_fit k bs ss w
  unfold wantD at eo
  unfold natsD
  generalize (List.range w).map (fun j : Nat => D.lst ((openL bs ss two due (((rowC k (-1) one (1 + (j : Int)) : Nat) : Int) + (rowC k 0 two (1 + (j : Int)) : Nat)) j).map D.int)) = WL at eo ef
  generalize (List.range w).map (fun j : Nat => D.int ((rowC k (-1) one (1 + (j : Int)) : Nat) : Int)) = SL at eo t3
  generalize tripD k bs ss w = TT at eo ef f3 i1 i2 ⊢
  generalize tabD k (-1) w = T1 at t3 f3
  generalize tabD k 0 w = T2 at f3
  generalize tabD k 1 w = T3 at ef f3
  unfold f_Triples_below b_Triples_below
  simp! [zaa] at t3 ⊢
  simp! [f3, t3, meth_ok i1, meth_ok i2, eo, ef]
abbrev Tb := List ((Int × Int) × Int)
/-- a layer: what stands in it is right, and what is right stands in it -/
def Snd (N : Nat) (T : Tb) (R : Nat → Nat → Nat → Prop) : Prop := ∀ p v, lkA T p = some v → ∃ a b c : Nat, (a < N ∧ b < N ∧ c < N) ∧ p = ((b : Int), (c : Int)) ∧ v = (a : Int) ∧ R a b c
def Cpl (N : Nat) (T : Tb) (R : Nat → Nat → Nat → Prop) (P : Nat → Nat → Nat → Prop) : Prop := ∀ a b c : Nat, a < N → b < N → c < N → P a b c → R a b c → (lkA T ((b : Int), (c : Int))).isSome = true
theorem lkA_put (T : Tb) (p : Int × Int) (v : Int) (q : Int × Int) : lkA (ptA T p v) q = if q = p then some v else lkA T q := lkA_pt T p v q
theorem snd_nil (N : Nat) (R : Nat → Nat → Nat → Prop) : Snd N [] R := fun p v e => nomatch (show (none : Option Int) = some v from e)
theorem Snd.put {N : Nat} {T : Tb} {R : Nat → Nat → Nat → Prop} (h : Snd N T R) {a b c : Nat} (ha : a < N) (hb : b < N) (hc : c < N) (r : R a b c) : Snd N (ptA T ((b : Int), (c : Int)) (a : Int)) R := fun p v e => by
  rw [lkA_put] at e
  by_cases hp : p = ((b : Int), (c : Int))
  · rw [if_pos hp] at e
    exact ⟨a, b, c, ⟨ha, hb, hc⟩, hp, (Option.some.inj e).symm, r⟩
  · rw [if_neg hp] at e
    exact h p v e
theorem put_some {T : Tb} {p q : Int × Int} (v : Int) (h : (lkA T q).isSome = true) : (lkA (ptA T p v) q).isSome = true := by
  rw [lkA_put]
  split
  · rfl
  · exact h
theorem put_here (T : Tb) (p : Int × Int) (v : Int) : (lkA (ptA T p v) p).isSome = true := by
  rw [lkA_put, if_pos rfl]
  rfl
theorem nil_eq : eqD (.lst []) (.lst []) = some true := by
  have := eqD_enc (α := List Int) (by decide) [] []
  rw [decide_eq_true rfl] at this
  exact this
theorem cons_eq (a : Nat) (l : List Nat) : eqD (.lst (D.int (a : Int) :: l.map fun r : Nat => D.int (r : Int))) (.lst []) = some false := by
  have := eqD_enc (α := List Int) (by decide) ((a : Int) :: l.map fun r : Nat => (r : Int)) []
  rw [decide_eq_false (List.cons_ne_nil _ _)] at this
  refine Eq.trans ?_ this
  show _ = eqD (.lst (((a : Int) :: l.map fun r : Nat => (r : Int)).map D.int)) (.lst [])
  rw [List.map_cons, List.map_map]
  rfl
theorem first_is {k : Int} (bs ss : List Int) {w : Nat} (hw : w = 1 ∨ w = 2 ∨ w = 3) {due : Nat} (hd : due < 32) : ∃ T : Tb, f_first_layer [tripD k bs ss w, .int (due : Int)] = .ok (.dicT true (encE D.int T)) [] ∧ (T.map (·.1)).Nodup ∧ Snd (2 ^ (w + 2)) T (fun a b c => shownB k bs ss w a b c due = true) ∧ Cpl (2 ^ (w + 2)) T (fun a b c => shownB k bs ss w a b c due = true) (fun _ _ _ => True) := by
  have h32 : 2 ^ (w + 2) ≤ 32 := by rcases hw with rfl | rfl | rfl <;> decide
  have em := many_is k bs ss w (by omega)
  have im := ins_many k bs ss w
  have ia := ins_above k bs ss w
  have ab := fun (two three : Nat) (h2 : two < 2 ^ (w + 2)) (h3 : three < 2 ^ (w + 2)) => above_is (k := k) bs ss hw h2 h3 hd
  generalize hN : 2 ^ (w + 2) = N at *
  obtain ⟨NI, hNI⟩ : ∃ NI : Int, (N : Int) = NI := ⟨_, rfl⟩
  have hr : inR NI = true := by rw [← hNI]; exact inR_of (by omega)
  have hT : NI.toNat = N := by omega
  rw [hNI] at em
  generalize hTT : tripD k bs ss w = TT at *
  obtain ⟨ρ', e, T, s3, s4, s5, rfl, hl, hn, hs, hc⟩ := for_range_inv (g := gSet 3) (body := b_first_layer_2) (lo := 0) (n := N) (fun i ρ => ∃ (T : Tb) (s3 s4 s5 : Slot), ρ = [.val TT, .val (.int (due : Int)), .own (.dicT false (encE D.int T)), s3, s4, s5] ∧ T.length ≤ 32 * i ∧ (T.map (·.1)).Nodup ∧ Snd N T (fun a b c => shownB k bs ss w a b c due = true) ∧ Cpl N T (fun a b c => shownB k bs ss w a b c due = true) (fun _ b _ => b < i))
    (ρ := [.val TT, .val (.int (due : Int)), .own (.dicT false []), .emp, .emp, .emp]) ⟨[], _, _, _, rfl, Nat.zero_le _, List.nodup_nil, snd_nil _ _, fun a b c _ _ _ h _ => absurd h (Nat.not_lt_zero _)⟩ (fun i ρ hi hρ => by
      obtain ⟨T, s3, s4, s5, rfl, hl, hn, hs, hc⟩ := hρ
      refine ⟨_, rfl, ?_⟩
      rw [Int.zero_add]
      obtain ⟨ρ', e, T', s4', s5', rfl, hl', hn', hs', hc', hk'⟩ := for_range_inv (g := gSet 4) (body := b_first_layer_1) (lo := 0) (n := N) (fun j ρ => ∃ (T' : Tb) (s4 s5 : Slot), ρ = [.val TT, .val (.int (due : Int)), .own (.dicT false (encE D.int T')), .val (.int (i : Int)), s4, s5] ∧ T'.length ≤ 32 * i + j ∧ (T'.map (·.1)).Nodup ∧ Snd N T' (fun a b c => shownB k bs ss w a b c due = true) ∧ Cpl N T' (fun a b c => shownB k bs ss w a b c due = true) (fun _ b c => b = i ∧ c < j) ∧ ∀ q, (lkA T q).isSome = true → (lkA T' q).isSome = true)
        (ρ := [.val TT, .val (.int (due : Int)), .own (.dicT false (encE D.int T)), .val (.int (i : Int)), s4, s5]) ⟨T, _, _, rfl, hl, hn, hs, fun a b c _ _ _ h _ => absurd h.2 (Nat.not_lt_zero _), fun q h => h⟩ (fun j ρ hj hρ => by
          obtain ⟨T', s4, s5, rfl, hl', hn', hs', hc', hk'⟩ := hρ
          refine ⟨_, rfl, ?_⟩
          rw [Int.zero_add]
          have ea := ab i j hi hj
          have hz : (encE D.int T').length < sizeLine := by rw [encE_len]; exact szBl (by omega)
          cases hA : aboveL k bs ss w i j due with
          | nil =>
            rw [hA] at ea
            refine ⟨_, .inl ?_, T', .val (.int (j : Int)), .val (.lst []), rfl, by omega, hn', hs', fun a b c ha hb hcn hP hR => ?_, hk'⟩
            · unfold b_first_layer_1
              simp! [natsD, List.map_nil] at ea ⊢
              simp! [meth_ok ia, ea, nil_eq]
            · by_cases hcj : c < j
              · exact hc' a b c ha hb hcn ⟨hP.1, hcj⟩ hR
              · have h1 : c = j := by omega
                have h2 : b = i := hP.1
                subst h1 h2
                have : a ∈ aboveL k bs ss w b c due := List.mem_filter.mpr ⟨List.mem_range.mpr (by rw [hN]; exact ha), hR⟩
                rw [hA] at this
                cases this
          | cons a0 rest =>
            rw [hA] at ea
            have hm : a0 ∈ aboveL k bs ss w i j due := by rw [hA]; exact List.mem_cons_self ..
            have hm2 := List.mem_filter.mp hm
            have ha0 : a0 < N := by rw [← hN]; exact List.mem_range.mp hm2.1
            refine ⟨_, .inl ?_, ptA T' ((i : Int), (j : Int)) (a0 : Int), .val (.int (j : Int)), .val (natsD (a0 :: rest)), rfl, Nat.le_trans (ptA_len _ _ _) (by omega), ptA_nodup _ _ _ hn', hs'.put ha0 hi hj hm2.2, fun a b c ha hb hcn hP hR => ?_, fun q h => put_some _ (hk' q h)⟩
            · unfold b_first_layer_1
              simp! [natsD, List.map_cons] at ea ⊢
              simp! [meth_ok ia, ea, cons_eq, hz, pt_int]
            · by_cases hcj : c < j
              · exact put_some _ (hc' a b c ha hb hcn ⟨hP.1, hcj⟩ hR)
              · have h1 : c = j := by omega
                have h2 : b = i := hP.1
                subst h1 h2
                exact put_here _ _ _)
      refine ⟨_, .inl ?_, T', .val (.int (i : Int)), s4', s5', rfl, by omega, hn', hs', fun a b c ha hb hcn hP hR => ?_⟩
      · unfold b_first_layer_2
        simp! [meth_ok im, em, hr, hT, e]
      · by_cases hbi : b < i
        · exact hk' _ (hc a b c ha hb hcn hbi hR)
        · exact hc' a b c ha hb hcn ⟨by omega, hcn⟩ hR)
  refine ⟨T, ?_, hn, hs, fun a b c ha hb hcn _ hR => hc a b c ha hb hcn hb hR⟩
  have hf : ∀ A B C D2 E : Slot, frzR 2 [A, B, .own (.dicT false (encE D.int T)), C, D2, E] = some [A, B, .own (.dicT true (encE D.int T)), C, D2, E] := fun _ _ _ _ _ => rfl
  unfold f_first_layer b_first_layer
  simp! [meth_ok im, em, hr, hT, e, zhs, hf, zht]
def tbD (T : Tb) : D := .dicT true (encE D.int T)
def dueF (live : List (Int × Int)) (y : Nat) : Nat := 2 * rowF live (y : Int)
theorem lk_all (l : List (Int × Int)) (a b : Int) : (lk (encE D.bl (allT l)) (ck (a, b))).isSome = decide ((a, b) ∈ l) := by rw [lk_some, allT_lk]
theorem zeE (a b c : D) : dLst [a, b, c] = some (.lst [a, b, c]) := dLst_ap (szn (show 3 ≤ 1000 by decide))
theorem noL_ruleD (k : Int) (bs ss : List Int) : noL (ruleD k bs ss) = true := by
  show noLs [.int k, .tup (bs.map D.int), .tup (ss.map D.int)] = true
  show (true && (noLs (bs.map D.int) && (noLs (ss.map D.int) && true))) = true
  rw [noLs_ints, noLs_ints]
  rfl
theorem ltable_is {k : Int} (hk : Kind k) (bs ss : List Int) (step : Int) (hs : step = -1 ∨ step = 0 ∨ step = 1) (w : Nat) (hw : w = 1 ∨ w = 2 ∨ w = 3) : f_law_table [ruleD k bs ss, .int (w : Int), .int step] = .ok (tabD k step w) [] := by
  rcases hk with rfl | rfl | rfl
  · rcases hs with rfl | rfl | rfl
    · rcases hw with rfl | rfl | rfl
      · kernel_rfl
      · kernel_rfl
      · kernel_rfl
    · rcases hw with rfl | rfl | rfl
      · kernel_rfl
      · kernel_rfl
      · kernel_rfl
    · rcases hw with rfl | rfl | rfl
      · kernel_rfl
      · kernel_rfl
      · kernel_rfl
  · rcases hs with rfl | rfl | rfl
    · rcases hw with rfl | rfl | rfl
      · kernel_rfl
      · kernel_rfl
      · kernel_rfl
    · rcases hw with rfl | rfl | rfl
      · kernel_rfl
      · kernel_rfl
      · kernel_rfl
    · rcases hw with rfl | rfl | rfl
      · kernel_rfl
      · kernel_rfl
      · kernel_rfl
  · rcases hs with rfl | rfl | rfl
    · rcases hw with rfl | rfl | rfl
      · kernel_rfl
      · kernel_rfl
      · kernel_rfl
    · rcases hw with rfl | rfl | rfl
      · kernel_rfl
      · kernel_rfl
      · kernel_rfl
    · rcases hw with rfl | rfl | rfl
      · kernel_rfl
      · kernel_rfl
      · kernel_rfl
theorem bit_all : ∀ x < 6, ∀ r < 32, (match (dShr (.int ((r : Nat) : Int)) (.int ((x : Nat) : Int))).bind (fun a => (dAnd a (.int 1)).bind fun b => eqD b (.int 1)) with | some b => b == r.testBit x | _ => false) = true := by decide +kernel
theorem bit_is {r x : Nat} (hr : r < 32) (hx : x < 6) : ∃ a b : D, dShr (.int (r : Int)) (.int (x : Int)) = some a ∧ dAnd a (.int 1) = some b ∧ eqD b (.int 1) = some (r.testBit x) := by
  have h := bit_all x hx r hr
  cases h1 : dShr (.int (r : Int)) (.int (x : Int)) with
  | none => rw [h1] at h; cases h
  | some a =>
    rw [h1] at h
    cases h2 : dAnd a (.int 1) with
    | none => simp only [Option.bind_some, h2] at h; cases h
    | some b =>
      refine ⟨a, b, rfl, h2, ?_⟩
      simp only [Option.bind_some, h2] at h
      split at h
      · next c e => rw [e, eq_of_beq h]
      · cases h
theorem tab_at2 (k step : Int) (w : Nat) {r j : Nat} (h : r < 2 ^ (w + 2)) (hj : j < w) : ∃ R : D, dIx (tabD k step w) (.int (r : Int)) = some R ∧ dIx R (.int (j : Int)) = some (.int ((rowC k step r (1 + (j : Int)) : Nat) : Int)) := ⟨_, tab_at k step w h, row_at k step w r hj⟩
theorem allowed_is {k : Int} (bs ss : List Int) {w : Nat} (hw : w = 1 ∨ w = 2 ∨ w = 3) {one two due x : Nat} (h1 : one < 2 ^ (w + 2)) (h2 : two < 2 ^ (w + 2)) (hx : x < w) : f_law_allowed [ruleD k bs ss, .lst [tabD k (-1) w, tabD k 0 w, tabD k 1 w], .tup [.int (one : Int), .int (two : Int)], .int (x : Int), .bl (due.testBit (1 + x))] = .ok (.lst ((openL bs ss two due (((rowC k (-1) one (1 + (x : Int)) : Nat) : Int) + (rowC k 0 two (1 + (x : Int)) : Nat)) x).map D.int)) [] := by
  have h32 : 2 ^ (w + 2) ≤ 32 := by rcases hw with rfl | rfl | rfl <;> decide
  obtain ⟨R1, e1, e2⟩ := tab_at2 k (-1) w h1 hx
  obtain ⟨R2, e3, e4⟩ := tab_at2 k 0 w h2 hx
  obtain ⟨A, B, e5, e6, e7⟩ := bit_is (r := two) (x := 1 + x) (by omega) (by omega)
  have q : (((1 + x : Nat)) : Int) = (x : Int) + 1 := by omega
  rw [q] at e5
  generalize tabD k (-1) w = T1 at *
  generalize tabD k 0 w = T2 at *
  generalize tabD k 1 w = T3 at *
  obtain ⟨b, hb⟩ : ∃ b : Int, ((rowC k (-1) one (1 + (x : Int)) : Nat) : Int) + (rowC k 0 two (1 + (x : Int)) : Nat) = b := ⟨_, rfl⟩
  have run : ∀ (TT PR : D) (db tb : Bool) (X : Int), lcRun (gSet 7) (xTest (xOp2 dEq (xOp2 dInX (xOp2 dAdd (xVar 5) (xVar 7)) (xVar 6)) (xVar 4))) (xVar 7) [7] (rangeD 0 4) [] [.val (ruleD k bs ss), .val TT, .val PR, .val (.int X), .val (.bl db), .val (.int b), .val (.tup ((if tb = true then ss else bs).map D.int)), .emp] = .ok (((intsL 0 4).filter fun c => decide (b + c ∈ if tb = true then ss else bs) == db).map D.int) [.val (ruleD k bs ss), .val TT, .val PR, .val (.int X), .val (.bl db), .val (.int b), .val (.tup ((if tb = true then ss else bs).map D.int)), .emp] := fun TT PR db tb X => by
    have hr : rangeD 0 4 = (intsL 0 4).map D.int := by unfold intsL; rw [List.map_map]; rfl
    rw [hr]
    generalize (if tb = true then ss else bs) = SB
    have hq := lcFilt (g := gSet 7) (tt := xTest (xOp2 dEq (xOp2 dInX (xOp2 dAdd (xVar 5) (xVar 7)) (xVar 6)) (xVar 4))) (te := xVar 7) (vs := [7]) (ρ := [.val (ruleD k bs ss), .val TT, .val PR, .val (.int X), .val (.bl db), .val (.int b), .val (.tup (SB.map D.int)), .emp]) (e1 := D.int) D.int (fun c => decide (b + c ∈ SB) == db) id (l := intsL 0 4) (fun c _ => by
      have hi := zhn (b + c) SB
      generalize D.tup (SB.map D.int) = ST at hi ⊢
      generalize ruleD k bs ss = RD
      generalize decide (b + c ∈ SB) = R at hi ⊢
      cases hR : R == db with
      | true => simp! [hi, hR, id]
      | false => simp! [hi, hR])
    rw [List.map_id] at hq
    exact hq
  have hz4 : (rangeD 0 4).length ≤ sizeLine := by rw [rangeD_len]; exact szn (by omega)
  have hz5 : ∀ tb db : Bool, (((intsL 0 4).filter fun c => decide (b + c ∈ if tb = true then ss else bs) == db).map D.int).length ≤ sizeLine := fun tb db => by
    rw [List.length_map]
    exact szn (Nat.le_trans (List.length_filter_le _ _) (by decide))
  have run := run (.lst [T1, T2, T3]) (.tup [.int (one : Int), .int (two : Int)]) (due.testBit (1 + x)) (two.testBit (1 + x)) (x : Int)
  have hz5 := hz5 (two.testBit (1 + x)) (due.testBit (1 + x))
  unfold openL
  rw [hb]
  obtain ⟨X, hX⟩ : ∃ X : Int, (x : Int) = X := ⟨_, rfl⟩
  obtain ⟨ONE, hO⟩ : ∃ X : Int, (one : Int) = X := ⟨_, rfl⟩
  obtain ⟨TWO, hTw⟩ : ∃ X : Int, (two : Int) = X := ⟨_, rfl⟩
  rw [hX] at e2 e4 e5 run ⊢
  rw [hO, hTw] at run ⊢
  rw [hO] at e1
  rw [hTw] at e3 e5
  rw [hX] at hb
  generalize due.testBit (1 + x) = db at *
  generalize two.testBit (1 + x) = tb at *
  generalize ((intsL 0 4).filter fun c => decide (b + c ∈ if tb = true then ss else bs) == db).map D.int = OL at *
  unfold f_law_allowed b_law_allowed
  cases tb with
  | true =>
    simp! [ruleD] at run ⊢
    simp! [e1, e2, e3, e4, hb, e5, e6, e7, zcB, hz4, run, hz5]
  | false =>
    simp! [ruleD] at run ⊢
    simp! [e1, e2, e3, e4, hb, e5, e6, e7, zcB, hz4, run, hz5]

/-- the pairs below some pairs, by a row that is due -/
def Bel (k : Int) (bs ss : List Int) (w due : Nat) (L : List (Int × Int)) (p : Int × Int) : Prop := ∃ a b c : Nat, (a < 2 ^ (w + 2) ∧ b < 2 ^ (w + 2) ∧ c < 2 ^ (w + 2)) ∧ ((a : Int), (b : Int)) ∈ L ∧ p = ((b : Int), (c : Int)) ∧ shownB k bs ss w a b c due = true
abbrev TbB := List ((Int × Int) × Bool)
theorem bel_ring {k : Int} {bs ss : List Int} {w due : Nat} {L : List (Int × Int)} {p : Int × Int} (h : Bel k bs ss w due L p) : p ∈ ringL (2 ^ (w + 2)) (2 ^ (w + 2)) := by
  obtain ⟨a, b, c, ⟨_, hb, hc⟩, _, rfl, _⟩ := h
  exact mem_ringL.mpr ⟨⟨by simp only; omega, by simp only; omega⟩, by simp only; omega, by simp only; omega⟩
theorem ring_le {w : Nat} (hw : w = 1 ∨ w = 2 ∨ w = 3) {l : List (Int × Int)} (hn : l.Nodup) (h : ∀ p ∈ l, p ∈ ringL (2 ^ (w + 2)) (2 ^ (w + 2))) : l.length ≤ 1024 := by
  have := nodup_len hn h
  rw [ringL_len] at this
  have h32 : 2 ^ (w + 2) ≤ 32 := by rcases hw with rfl | rfl | rfl <;> decide
  have := Nat.mul_le_mul h32 h32
  omega
theorem fit_step (T : TbB) (p q : Int × Int) : p ∈ (ptA T q true).map (·.1) ↔ p = q ∨ p ∈ T.map (·.1) := ptA_keys T q true p
/-- the rows below two rows -/
theorem lthree_is {k : Int} {bs ss : List Int} {w : Nat} (hw : w = 1 ∨ w = 2 ∨ w = 3) {due one two : Nat} (h1 : one < 2 ^ (w + 2)) (h2 : two < 2 ^ (w + 2)) (T : TbB) (nT : (T.map (·.1)).Nodup) (hT : ∀ p ∈ T.map (·.1), p ∈ ringL (2 ^ (w + 2)) (2 ^ (w + 2))) (S0 S2 S4 : Slot) (dd : D) (hd : dLen [dd] = some (.int (w : Int))) (s9 : Slot) (O P : Int) (hP : (two : Int) = P) :
    ∃ (T' : TbB) (s9' : Slot), forRun (gSet 9) b_law_below_1 (rangeD 0 (2 ^ (w + 2))) [S0, .val (.lst [tabD k (-1) w, tabD k 0 w, tabD k 1 w]), S2, .val dd, S4, .own (.dicT false (encE D.bl T)), .val (.int O), .val (.int P), .val (.lst (wantD bs ss two due (fun j : Nat => ((rowC k (-1) one (1 + (j : Int)) : Nat) : Int) + (rowC k 0 two (1 + (j : Int)) : Nat)) w)), s9, .emp] = .nx [S0, .val (.lst [tabD k (-1) w, tabD k 0 w, tabD k 1 w]), S2, .val dd, S4, .own (.dicT false (encE D.bl T')), .val (.int O), .val (.int P), .val (.lst (wantD bs ss two due (fun j : Nat => ((rowC k (-1) one (1 + (j : Int)) : Nat) : Int) + (rowC k 0 two (1 + (j : Int)) : Nat)) w)), s9', .emp] ∧ (T'.map (·.1)).Nodup ∧ (∀ p, p ∈ T'.map (·.1) ↔ p ∈ T.map (·.1) ∨ ∃ c : Nat, c < 2 ^ (w + 2) ∧ p = ((two : Int), (c : Int)) ∧ shownB k bs ss w one two c due = true) := by
  have h32 : 2 ^ (w + 2) ≤ 32 := by rcases hw with rfl | rfl | rfl <;> decide
  obtain ⟨ρ', e, T', s9', rfl, n', k'⟩ := for_range_inv (g := gSet 9) (body := b_law_below_1) (lo := 0) (n := 2 ^ (w + 2)) (fun m ρ => ∃ (T' : TbB) (s9 : Slot), ρ = [S0, .val (.lst [tabD k (-1) w, tabD k 0 w, tabD k 1 w]), S2, .val dd, S4, .own (.dicT false (encE D.bl T')), .val (.int O), .val (.int P), .val (.lst (wantD bs ss two due (fun j : Nat => ((rowC k (-1) one (1 + (j : Int)) : Nat) : Int) + (rowC k 0 two (1 + (j : Int)) : Nat)) w)), s9, .emp] ∧ (T'.map (·.1)).Nodup ∧ ∀ p, p ∈ T'.map (·.1) ↔ p ∈ T.map (·.1) ∨ ∃ c : Nat, c < m ∧ p = ((two : Int), (c : Int)) ∧ shownB k bs ss w one two c due = true)
    (ρ := [S0, .val (.lst [tabD k (-1) w, tabD k 0 w, tabD k 1 w]), S2, .val dd, S4, .own (.dicT false (encE D.bl T)), .val (.int O), .val (.int P), .val (.lst (wantD bs ss two due (fun j : Nat => ((rowC k (-1) one (1 + (j : Int)) : Nat) : Int) + (rowC k 0 two (1 + (j : Int)) : Nat)) w)), s9, .emp]) ⟨T, s9, rfl, nT, fun p => ⟨.inl, fun h => h.elim id fun ⟨_, h, _⟩ => absurd h (Nat.not_lt_zero _)⟩⟩ (fun m ρ hm hρ => by
      obtain ⟨T', s9, rfl, n', k'⟩ := hρ
      refine ⟨_, rfl, ?_⟩
      rw [Int.zero_add]
      have hb := congrArg (fun l => decide (m ∈ l)) (below_fit k bs ss w one two due)
      have hsh : ((List.range w).all fun j : Nat => decide (((rowC k 1 m (1 + (j : Int)) : Nat) : Int) ∈ openL bs ss two due (((rowC k (-1) one (1 + (j : Int)) : Nat) : Int) + (rowC k 0 two (1 + (j : Int)) : Nat)) j)) = shownB k bs ss w one two m due := by
        unfold fitL belowL at hb
        simp only [List.mem_filter, List.mem_range] at hb
        rw [Bool.eq_iff_iff]
        have hb := decide_eq_decide.mp hb
        exact ⟨fun h => (hb.mp ⟨hm, h⟩).2, fun h => (hb.mpr ⟨hm, h⟩).2⟩
      have hlen : T'.length ≤ 1024 := by
        have := ring_le hw n' (fun p hp => (k' p).mp hp |>.elim (hT p) fun ⟨c, hc, e, _⟩ => by
          subst e
          exact mem_ringL.mpr ⟨⟨by simp only; omega, by simp only; omega⟩, by simp only; omega, by simp only; omega⟩)
        rwa [List.length_map] at this
      have hz : (encE D.bl T').length < sizeLine := by rw [encE_len]; exact szBl (by omega)
      obtain ⟨R3, e3⟩ : ∃ R3 : D, dIx (tabD k 1 w) (.int (m : Int)) = some R3 ∧ ∀ j, j < w → dIx R3 (.int (j : Int)) = some (.int ((rowC k 1 m (1 + (j : Int)) : Nat) : Int)) := ⟨_, tab_at k 1 w hm, fun j hj => row_at k 1 w m hj⟩
      have run : ∀ (T1 T2 T3 : D) (Z : D) (M : Int), dIx T3 (.int M) = some R3 → lcRun (gSet 10) xYes (xOp2 dInX (xOp2 dIx (xOp2 dIx (xOp2 dIx (xVar 1) (xC (.int 2))) (xVar 9)) (xVar 10)) (xOp2 dIx (xVar 8) (xVar 10))) [10] (rangeD 0 w) [] [S0, .val (.lst [T1, T2, T3]), S2, .val dd, S4, .own Z, .val (.int O), .val (.int P), .val (.lst (wantD bs ss two due (fun j : Nat => ((rowC k (-1) one (1 + (j : Int)) : Nat) : Int) + (rowC k 0 two (1 + (j : Int)) : Nat)) w)), .val (.int M), .emp] = .ok ((List.range w).map fun j : Nat => D.bl (decide (((rowC k 1 m (1 + (j : Int)) : Nat) : Int) ∈ openL bs ss two due (((rowC k (-1) one (1 + (j : Int)) : Nat) : Int) + (rowC k 0 two (1 + (j : Int)) : Nat)) j))) [S0, .val (.lst [T1, T2, T3]), S2, .val dd, S4, .own Z, .val (.int O), .val (.int P), .val (.lst (wantD bs ss two due (fun j : Nat => ((rowC k (-1) one (1 + (j : Int)) : Nat) : Int) + (rowC k 0 two (1 + (j : Int)) : Nat)) w)), .val (.int M), .emp] := fun T1 T2 T3 Z M e4 => by
        have hr : rangeD 0 w = (List.range w).map fun j : Nat => D.int (j : Int) := by
          unfold rangeD
          exact List.map_congr_left fun j _ => by rw [Int.zero_add]
        rw [hr]
        have hq := lcMap (g := gSet 10) (tt := xYes) (te := xOp2 dInX (xOp2 dIx (xOp2 dIx (xOp2 dIx (xVar 1) (xC (.int 2))) (xVar 9)) (xVar 10)) (xOp2 dIx (xVar 8) (xVar 10))) (vs := [10]) (ρ := [S0, .val (.lst [T1, T2, T3]), S2, .val dd, S4, .own Z, .val (.int O), .val (.int P), .val (.lst (wantD bs ss two due (fun j : Nat => ((rowC k (-1) one (1 + (j : Int)) : Nat) : Int) + (rowC k 0 two (1 + (j : Int)) : Nat)) w)), .val (.int M), .emp]) (e1 := fun j : Nat => D.int (j : Int)) (fun j : Nat => D.bl (decide (((rowC k 1 m (1 + (j : Int)) : Nat) : Int) ∈ openL bs ss two due (((rowC k (-1) one (1 + (j : Int)) : Nat) : Int) + (rowC k 0 two (1 + (j : Int)) : Nat)) j))) id (l := List.range w) (fun j hj => by
          have hj := List.mem_range.mp hj
          have e5 := e3.2 j hj
          have aw : atI (wantD bs ss two due (fun j : Nat => ((rowC k (-1) one (1 + (j : Int)) : Nat) : Int) + (rowC k 0 two (1 + (j : Int)) : Nat)) w) (j : Int) = some (.lst ((openL bs ss two due (((rowC k (-1) one (1 + (j : Int)) : Nat) : Int) + (rowC k 0 two (1 + (j : Int)) : Nat)) j).map D.int)) := at_map (fun j : Nat => .lst ((openL bs ss two due (((rowC k (-1) one (1 + (j : Int)) : Nat) : Int) + (rowC k 0 two (1 + (j : Int)) : Nat)) j).map D.int)) hj
          have hI : inD (.int ((rowC k 1 m (1 + (j : Int)) : Nat) : Int)) (.lst ((openL bs ss two due (((rowC k (-1) one (1 + (j : Int)) : Nat) : Int) + (rowC k 0 two (1 + (j : Int)) : Nat)) j).map D.int)) = some (decide (((rowC k 1 m (1 + (j : Int)) : Nat) : Int) ∈ openL bs ss two due (((rowC k (-1) one (1 + (j : Int)) : Nat) : Int) + (rowC k 0 two (1 + (j : Int)) : Nat)) j)) := inD_enc (α := Int) (by decide) _ _
          generalize wantD bs ss two due (fun j : Nat => ((rowC k (-1) one (1 + (j : Int)) : Nat) : Int) + (rowC k 0 two (1 + (j : Int)) : Nat)) w = WL at *
          show _ = Res.ok (some (D.bl (decide (((rowC k 1 m (1 + (j : Int)) : Nat) : Int) ∈ openL bs ss two due (((rowC k (-1) one (1 + (j : Int)) : Nat) : Int) + (rowC k 0 two (1 + (j : Int)) : Nat)) j)))) _
          generalize openL bs ss two due (((rowC k (-1) one (1 + (j : Int)) : Nat) : Int) + (rowC k 0 two (1 + (j : Int)) : Nat)) j = OL at *
          generalize ((rowC k 1 m (1 + (j : Int)) : Nat) : Int) = CC at *
          generalize decide (CC ∈ OL) = BB at *
          generalize OL.map D.int = OD at *
          generalize (j : Int) = J at *
          simp! [e4, e5, aw, hI, id])
        rw [List.map_id] at hq
        exact hq
      have run := run (tabD k (-1) w) (tabD k 0 w) (tabD k 1 w) (.dicT false (encE D.bl T')) (m : Int) e3.1
      have ha := all_map (fun j : Nat => decide (((rowC k 1 m (1 + (j : Int)) : Nat) : Int) ∈ openL bs ss two due (((rowC k (-1) one (1 + (j : Int)) : Nat) : Int) + (rowC k 0 two (1 + (j : Int)) : Nat)) j)) (List.range w)
      rw [hsh] at ha
      have hr : inR (w : Int) = true := inR_of (by omega)
      have hTw : ((w : Int)).toNat = w := Int.toNat_natCast w
      have hzr : (rangeD 0 w).length ≤ sizeLine := by rw [rangeD_len]; exact szn (by omega)
      have hzb : ((List.range w).map fun j : Nat => D.bl (decide (((rowC k 1 m (1 + (j : Int)) : Nat) : Int) ∈ openL bs ss two due (((rowC k (-1) one (1 + (j : Int)) : Nat) : Int) + (rowC k 0 two (1 + (j : Int)) : Nat)) j))).length ≤ sizeLine := by rw [List.length_map, List.length_range]; exact szn (by omega)
      generalize (List.range w).map (fun j : Nat => D.bl (decide (((rowC k 1 m (1 + (j : Int)) : Nat) : Int) ∈ openL bs ss two due (((rowC k (-1) one (1 + (j : Int)) : Nat) : Int) + (rowC k 0 two (1 + (j : Int)) : Nat)) j))) = BL at *
      generalize wantD bs ss two due (fun j : Nat => ((rowC k (-1) one (1 + (j : Int)) : Nat) : Int) + (rowC k 0 two (1 + (j : Int)) : Nat)) w = WL at *
      generalize D.lst [tabD k (-1) w, tabD k 0 w, tabD k 1 w] = TBS at *
      obtain ⟨Wi, hWi⟩ : ∃ Wi : Int, (w : Int) = Wi := ⟨_, rfl⟩
      rw [hWi] at hd hr hTw
      obtain ⟨M, hM⟩ : ∃ M : Int, (m : Int) = M := ⟨_, rfl⟩
      rw [hM] at run ⊢
      cases hc : shownB k bs ss w one two m due with
      | true =>
        rw [hc] at ha
        refine ⟨[S0, .val TBS, S2, .val dd, S4, .own (.dicT false (encE D.bl (ptA T' (P, M) true))), .val (.int O), .val (.int P), .val (.lst WL), .val (.int M), .emp], .inl ?_, ptA T' (P, M) true, .val (.int M), rfl, ptA_nodup _ _ _ n', fun p => ?_⟩
        · unfold b_law_below_1
          simp! [hd, hr, hTw, hzr, run, hzb, ha, hz, pt_bl]
        · rw [fit_step, k' p, ← hM, ← hP]
          constructor
          · rintro (rfl | h | ⟨c, h3, h4, h5⟩)
            · exact .inr ⟨m, by omega, rfl, hc⟩
            · exact .inl h
            · exact .inr ⟨c, by omega, h4, h5⟩
          · rintro (h | ⟨c, h3, h4, h5⟩)
            · exact .inr (.inl h)
            · by_cases h6 : c = m
              · subst h6
                exact .inl h4
              · exact .inr (.inr ⟨c, by omega, h4, h5⟩)
      | false =>
        rw [hc] at ha
        refine ⟨[S0, .val TBS, S2, .val dd, S4, .own (.dicT false (encE D.bl T')), .val (.int O), .val (.int P), .val (.lst WL), .val (.int M), .emp], .inl ?_, T', .val (.int M), rfl, n', fun p => ?_⟩
        · unfold b_law_below_1
          simp! [hd, hr, hTw, hzr, run, hzb, ha]
        · rw [k' p]
          constructor
          · rintro (h | ⟨c, h3, h4, h5⟩)
            · exact .inl h
            · exact .inr ⟨c, by omega, h4, h5⟩
          · rintro (h | ⟨c, h3, h4, h5⟩)
            · exact .inl h
            · by_cases h6 : c = m
              · subst h6
                rw [hc] at h5
                cases h5
              · exact .inr ⟨c, by omega, h4, h5⟩)
  exact ⟨T', s9', e, n', k'⟩

theorem dueB (due : Nat) (w x : Nat) (hx : x < w) : dIx (.lst ((List.range w).map fun j : Nat => D.bl (due.testBit (1 + j)))) (.int (x : Int)) = some (.bl (due.testBit (1 + x))) := at_map (fun j : Nat => D.bl (due.testBit (1 + j))) hx
theorem lallow_run {k : Int} (bs ss : List Int) {w : Nat} (hw : w = 1 ∨ w = 2 ∨ w = 3) {due one two : Nat} (h1 : one < 2 ^ (w + 2)) (h2 : two < 2 ^ (w + 2)) (S2 S4 S5 S8 S9 : Slot) : lcRun (gSet 10) xYes (xCall f_law_allowed (xCons (xVar 0) (xCons (xVar 1) (xCons (xOpL dTup (xCons (xVar 6) (xCons (xVar 7) xNil))) (xCons (xVar 10) (xCons (xOp2 dIx (xVar 3) (xVar 10)) xNil)))))) [10] (rangeD 0 w) [] [.val (ruleD k bs ss), .val (.lst [tabD k (-1) w, tabD k 0 w, tabD k 1 w]), S2, .val (.lst ((List.range w).map fun j : Nat => D.bl (due.testBit (1 + j)))), S4, S5, .val (.int (one : Int)), .val (.int (two : Int)), S8, S9, .emp] = .ok (wantD bs ss two due (fun j : Nat => ((rowC k (-1) one (1 + (j : Int)) : Nat) : Int) + (rowC k 0 two (1 + (j : Int)) : Nat)) w) [.val (ruleD k bs ss), .val (.lst [tabD k (-1) w, tabD k 0 w, tabD k 1 w]), S2, .val (.lst ((List.range w).map fun j : Nat => D.bl (due.testBit (1 + j)))), S4, S5, .val (.int (one : Int)), .val (.int (two : Int)), S8, S9, .emp] := by
  have hr : rangeD 0 w = (List.range w).map fun j : Nat => D.int (j : Int) := by
    unfold rangeD
    exact List.map_congr_left fun j _ => by rw [Int.zero_add]
  rw [hr]
  have hq := lcMap (g := gSet 10) (tt := xYes) (te := xCall f_law_allowed (xCons (xVar 0) (xCons (xVar 1) (xCons (xOpL dTup (xCons (xVar 6) (xCons (xVar 7) xNil))) (xCons (xVar 10) (xCons (xOp2 dIx (xVar 3) (xVar 10)) xNil)))))) (vs := [10]) (ρ := [.val (ruleD k bs ss), .val (.lst [tabD k (-1) w, tabD k 0 w, tabD k 1 w]), S2, .val (.lst ((List.range w).map fun j : Nat => D.bl (due.testBit (1 + j)))), S4, S5, .val (.int (one : Int)), .val (.int (two : Int)), S8, S9, .emp]) (e1 := fun j : Nat => D.int (j : Int)) (fun j : Nat => .lst ((openL bs ss two due (((rowC k (-1) one (1 + (j : Int)) : Nat) : Int) + (rowC k 0 two (1 + (j : Int)) : Nat)) j).map D.int)) id (l := List.range w) (fun j hj => by
    have hj := List.mem_range.mp hj
    have e1 := allowed_is (k := k) bs ss hw (due := due) h1 h2 hj
    have e2 := dueB due w j hj
    generalize D.lst [tabD k (-1) w, tabD k 0 w, tabD k 1 w] = TBS at *
    generalize D.lst ((List.range w).map fun j : Nat => D.bl (due.testBit (1 + j))) = DU at *
    generalize ruleD k bs ss = RD at *
    show _ = Res.ok (some (D.lst ((openL bs ss two due (((rowC k (-1) one (1 + (j : Int)) : Nat) : Int) + (rowC k 0 two (1 + (j : Int)) : Nat)) j).map D.int))) _
    generalize (openL bs ss two due (((rowC k (-1) one (1 + (j : Int)) : Nat) : Int) + (rowC k 0 two (1 + (j : Int)) : Nat)) j).map D.int = OL at *
    generalize (j : Int) = J at *
    simp! [e1, e2, id])
  rw [List.map_id] at hq
  exact hq
theorem want_mem {k : Int} {bs ss : List Int} {w : Nat} (due two : Nat) (f : Nat → Int) : inD (.lst []) (.lst (wantD bs ss two due f w)) = some (decide ([] ∈ (List.range w).map fun j : Nat => openL bs ss two due (f j) j)) := by
  have := inD_enc (α := List Int) (by decide) [] ((List.range w).map fun j : Nat => openL bs ss two due (f j) j)
  rw [List.map_map] at this
  exact this
theorem want_none {k : Int} {bs ss : List Int} {w : Nat} {due one two : Nat} (h : [] ∈ (List.range w).map fun j : Nat => openL bs ss two due (((rowC k (-1) one (1 + (j : Int)) : Nat) : Int) + (rowC k 0 two (1 + (j : Int)) : Nat)) j) (c : Nat) (hc : c < 2 ^ (w + 2)) : shownB k bs ss w one two c due = false := by
  cases hs : shownB k bs ss w one two c due with
  | false => rfl
  | true =>
    have hb := below_fit k bs ss w one two due
    have : c ∈ belowL k bs ss w one two due := by
      unfold belowL
      exact List.mem_filter.mpr ⟨List.mem_range.mpr hc, hs⟩
    rw [← hb] at this
    unfold fitL at this
    have := (List.mem_filter.mp this).2
    obtain ⟨j, hj, e⟩ := List.mem_map.mp h
    have := List.all_eq_true.mp this j hj
    simp only [e] at this
    simp at this
theorem lbelow_is {k : Int} (bs ss : List Int) {w : Nat} (hw : w = 1 ∨ w = 2 ∨ w = 3) (due : Nat) (L : List (Int × Int)) : ∃ R : List (Int × Int), f_law_below [ruleD k bs ss, .lst [tabD k (-1) w, tabD k 0 w, tabD k 1 w], cells L, .lst ((List.range w).map fun j : Nat => D.bl (due.testBit (1 + j)))] = .ok (cells R) [] ∧ R.Nodup ∧ ∀ p, p ∈ R ↔ Bel k bs ss w due L p := by
  have h32 : 2 ^ (w + 2) ≤ 32 := by rcases hw with rfl | rfl | rfl <;> decide
  have h4 : 0 < 2 ^ (w + 2) := by rcases hw with rfl | rfl | rfl <;> decide
  have hd : dLen [.lst ((List.range w).map fun j : Nat => D.bl (due.testBit (1 + j)))] = some (.int (w : Int)) := by
    show some (D.int (((List.range w).map fun j : Nat => D.bl (due.testBit (1 + j))).length : Nat)) = _
    rw [List.length_map, List.length_range]
  have hr : inR (w : Int) = true := inR_of (by omega)
  have hTw : ((w : Int)).toNat = w := Int.toNat_natCast w
  have hzr : (rangeD 0 w).length ≤ sizeLine := by rw [rangeD_len]; exact szn (by omega)
  have hzw : ∀ two f, (wantD bs ss two due f w).length ≤ sizeLine := fun two f => by
    unfold wantD
    rw [List.length_map, List.length_range]
    exact szn (by omega)
  obtain ⟨ρ', e, T, s6, s7, s8, s9, s10, rfl, rfl, nT, kT⟩ := for_list (g := gsTup 2 (gsCons (gSet 6) (gsCons (gSet 7) gsNil))) (body := b_law_below_2) (e := cellP) (fun i ρ => ∃ (T : TbB) (s6 s7 s8 s9 s10 : Slot), s10 = .emp ∧ ρ = [.val (ruleD k bs ss), .val (.lst [tabD k (-1) w, tabD k 0 w, tabD k 1 w]), .val (cells L), .val (.lst ((List.range w).map fun j : Nat => D.bl (due.testBit (1 + j)))), .val (.int ((2 ^ (w + 2) : Nat) : Int)), .own (.dicT false (encE D.bl T)), s6, s7, s8, s9, s10] ∧ (T.map (·.1)).Nodup ∧ ∀ p, p ∈ T.map (·.1) ↔ Bel k bs ss w due (L.take i) p) (l := L)
    (ρ := [.val (ruleD k bs ss), .val (.lst [tabD k (-1) w, tabD k 0 w, tabD k 1 w]), .val (cells L), .val (.lst ((List.range w).map fun j : Nat => D.bl (due.testBit (1 + j)))), .val (.int ((2 ^ (w + 2) : Nat) : Int)), .own (.dicT false []), .emp, .emp, .emp, .emp, .emp]) ⟨[], _, _, _, _, _, rfl, rfl, List.nodup_nil, fun p => ⟨fun h => absurd h List.not_mem_nil, fun ⟨_, _, _, _, h, _⟩ => absurd (by rw [List.take_zero] at h; exact h) (List.not_mem_nil (a := (_ : Int × Int)))⟩⟩ (fun i p ρ hi hρ => by
      obtain ⟨T, s6, s7, s8, s9, s10, rfl, rfl, nT, kT⟩ := hρ
      obtain ⟨O, P⟩ := p
      refine ⟨_, rfl, ?_⟩
      have hnn : ∀ p, Bel k bs ss w due (L.take (i + 1)) p ↔ Bel k bs ss w due (L.take i) p ∨ ∃ a b c : Nat, (a < 2 ^ (w + 2) ∧ b < 2 ^ (w + 2) ∧ c < 2 ^ (w + 2)) ∧ (a : Int) = O ∧ (b : Int) = P ∧ p = ((b : Int), (c : Int)) ∧ shownB k bs ss w a b c due = true := fun p => by
        rw [take_snoc hi]
        constructor
        · rintro ⟨a, b, c, h1, h2, h3, h4⟩
          rcases List.mem_append.mp h2 with h2 | h2
          · exact .inl ⟨a, b, c, h1, h2, h3, h4⟩
          · have := List.mem_singleton.mp h2
            injection this with q1 q2
            exact .inr ⟨a, b, c, h1, q1, q2, h3, h4⟩
        · rintro (⟨a, b, c, h1, h2, h3, h4⟩ | ⟨a, b, c, h1, h2, h3, h4⟩)
          · exact ⟨a, b, c, h1, List.mem_append_left _ h2, h3, h4⟩
          · exact ⟨a, b, c, h1, List.mem_append_right _ (List.mem_singleton.mpr (by rw [h2, h3])), h4⟩
      generalize hN : ((2 ^ (w + 2) : Nat) : Int) = NI at *
      by_cases hin : (0 ≤ O ∧ O < NI) ∧ 0 ≤ P ∧ P < NI
      · obtain ⟨⟨o1, o2⟩, p1, p2⟩ := hin
        obtain ⟨one, rfl⟩ : ∃ a : Nat, (a : Int) = O := ⟨O.toNat, by omega⟩
        obtain ⟨two, rfl⟩ : ∃ a : Nat, (a : Int) = P := ⟨P.toNat, by omega⟩
        have h1 : one < 2 ^ (w + 2) := by omega
        have h2 : two < 2 ^ (w + 2) := by omega
        have ra := fun S2 S4 S5 S8 S9 => lallow_run (k := k) bs ss hw (due := due) h1 h2 S2 S4 S5 S8 S9
        have hm := want_mem (k := k) (bs := bs) (ss := ss) (w := w) due two (fun j : Nat => ((rowC k (-1) one (1 + (j : Int)) : Nat) : Int) + (rowC k 0 two (1 + (j : Int)) : Nat))
        have hzw := hzw two (fun j : Nat => ((rowC k (-1) one (1 + (j : Int)) : Nat) : Int) + (rowC k 0 two (1 + (j : Int)) : Nat))
        by_cases h0 : [] ∈ (List.range w).map fun j : Nat => openL bs ss two due (((rowC k (-1) one (1 + (j : Int)) : Nat) : Int) + (rowC k 0 two (1 + (j : Int)) : Nat)) j
        · rw [decide_eq_true h0] at hm
          refine ⟨[.val (ruleD k bs ss), .val (.lst [tabD k (-1) w, tabD k 0 w, tabD k 1 w]), .val (cells L), .val (.lst ((List.range w).map fun j : Nat => D.bl (due.testBit (1 + j)))), .val (.int NI), .own (.dicT false (encE D.bl T)), .val (.int (one : Int)), .val (.int (two : Int)), .val (.lst (wantD bs ss two due (fun j : Nat => ((rowC k (-1) one (1 + (j : Int)) : Nat) : Int) + (rowC k 0 two (1 + (j : Int)) : Nat)) w)), s9, .emp], .inl ?_, T, _, _, _, _, _, rfl, rfl, nT, fun p => ?_⟩
          · have ra := ra (.val (cells L)) (.val (.int NI)) (.own (.dicT false (encE D.bl T))) (.val (.lst [.lst []])) s9
            generalize wantD bs ss two due (fun j : Nat => ((rowC k (-1) one (1 + (j : Int)) : Nat) : Int) + (rowC k 0 two (1 + (j : Int)) : Nat)) w = WL at *
            generalize (List.range w).map (fun j : Nat => D.bl (due.testBit (1 + j))) = DU at *
            generalize D.lst [tabD k (-1) w, tabD k 0 w, tabD k 1 w] = TBS at *
            generalize ruleD k bs ss = RD at *
            generalize (one : Int) = O at *
            generalize (two : Int) = P at *
            obtain ⟨Wi, hWi⟩ : ∃ Wi : Int, (w : Int) = Wi := ⟨_, rfl⟩
            rw [hWi] at hd hr hTw
            unfold b_law_below_2
            simp! [zhZ, zia, zib, o1, o2, p1, p2, hd, hr, hTw, hzr, ra, hzw, hm]
          · rw [kT p, hnn p]
            refine ⟨.inl, fun h => h.elim id fun ⟨a, b, c, h5, h6, h7, h8, h9⟩ => ?_⟩
            obtain rfl : a = one := by omega
            obtain rfl : b = two := by omega
            rw [want_none h0 c h5.2.2] at h9
            cases h9
        · rw [decide_eq_false h0] at hm
          obtain ⟨T', s9', e3, n', k'⟩ := lthree_is (k := k) (bs := bs) (ss := ss) hw (due := due) h1 h2 T nT (fun p hp => bel_ring ((kT p).mp hp)) (.val (ruleD k bs ss)) (.val (cells L)) (.val (.int NI)) (.lst ((List.range w).map fun j : Nat => D.bl (due.testBit (1 + j)))) hd s9 (one : Int) (two : Int) rfl
          refine ⟨[.val (ruleD k bs ss), .val (.lst [tabD k (-1) w, tabD k 0 w, tabD k 1 w]), .val (cells L), .val (.lst ((List.range w).map fun j : Nat => D.bl (due.testBit (1 + j)))), .val (.int NI), .own (.dicT false (encE D.bl T')), .val (.int (one : Int)), .val (.int (two : Int)), .val (.lst (wantD bs ss two due (fun j : Nat => ((rowC k (-1) one (1 + (j : Int)) : Nat) : Int) + (rowC k 0 two (1 + (j : Int)) : Nat)) w)), s9', .emp], .inl ?_, T', _, _, _, _, _, rfl, rfl, n', fun p => ?_⟩
          · have ra := ra (.val (cells L)) (.val (.int NI)) (.own (.dicT false (encE D.bl T))) (.val (.lst [.lst []])) s9
            have hrN : inR NI = true := inR_of (by omega)
            have hTN : NI.toNat = 2 ^ (w + 2) := by omega
            generalize wantD bs ss two due (fun j : Nat => ((rowC k (-1) one (1 + (j : Int)) : Nat) : Int) + (rowC k 0 two (1 + (j : Int)) : Nat)) w = WL at *
            generalize (List.range w).map (fun j : Nat => D.bl (due.testBit (1 + j))) = DU at *
            generalize D.lst [tabD k (-1) w, tabD k 0 w, tabD k 1 w] = TBS at *
            generalize ruleD k bs ss = RD at *
            generalize (one : Int) = O at *
            generalize (two : Int) = P at *
            obtain ⟨Wi, hWi⟩ : ∃ Wi : Int, (w : Int) = Wi := ⟨_, rfl⟩
            rw [hWi] at hd hr hTw
            unfold b_law_below_2
            simp! [zhZ, zia, zib, o1, o2, p1, p2, hd, hr, hTw, hzr, ra, hzw, hm, hrN, hTN, e3]
          · rw [k' p, kT p, hnn p]
            constructor
            · rintro (h | ⟨c, h5, h6, h7⟩)
              · exact .inl h
              · exact .inr ⟨one, two, c, ⟨h1, h2, h5⟩, rfl, rfl, h6, h7⟩
            · rintro (h | ⟨a, b, c, h5, h6, h7, h8, h9⟩)
              · exact .inl h
              · obtain rfl : a = one := by omega
                obtain rfl : b = two := by omega
                exact .inr ⟨c, h5.2.2, h8, h9⟩
      · have nin : inD (.lst []) (.lst [.lst []]) = some true := by kernel_rfl
        refine ⟨[.val (ruleD k bs ss), .val (.lst [tabD k (-1) w, tabD k 0 w, tabD k 1 w]), .val (cells L), .val (.lst ((List.range w).map fun j : Nat => D.bl (due.testBit (1 + j)))), .val (.int NI), .own (.dicT false (encE D.bl T)), .val (.int O), .val (.int P), .val (.lst [.lst []]), s9, .emp], .inl ?_, T, _, _, _, _, _, rfl, rfl, nT, fun p => ?_⟩
        · generalize (List.range w).map (fun j : Nat => D.bl (due.testBit (1 + j))) = DU at *
          generalize D.lst [tabD k (-1) w, tabD k 0 w, tabD k 1 w] = TBS at *
          generalize ruleD k bs ss = RD at *
          unfold b_law_below_2
          by_cases o1 : 0 ≤ O
          · by_cases o2 : O < NI
            · by_cases p1 : 0 ≤ P
              · by_cases p2 : P < NI
                · exact absurd ⟨⟨o1, o2⟩, p1, p2⟩ hin
                · simp! [zhZ, zia, zib, zic, o1, o2, p1, p2, nin]
              · simp! [zhZ, zia, zib, zic, o1, o2, p1, nin]
            · simp! [zhZ, zia, zib, zic, o1, o2, nin]
          · simp! [zhZ, zia, zib, zic, o1, nin]
        · rw [kT p, hnn p]
          refine ⟨.inl, fun h => h.elim id fun ⟨a, b, c, h5, h6, h7, h8, h9⟩ => ?_⟩
          exact absurd ⟨⟨by omega, by omega⟩, by omega, by omega⟩ hin)
  rw [List.take_length] at kT
  refine ⟨T.map (·.1), ?_, nT, kT⟩
  have hlt : dLen [tabD k (-1) w] = some (.int ((2 ^ (w + 2) : Nat) : Int)) := by
    unfold tabD
    show some (D.int (((List.range (2 ^ (w + 2))).map _).length : Nat)) = _
    rw [List.length_map, List.length_range]
  have hzT : (T.map (·.1)).length ≤ 1024 := ring_le hw nT fun p hp => bel_ring ((kT p).mp hp)
  have hzk : ((T.map (·.1)).map cellP).length ≤ sizeLine := by rw [List.length_map]; exact Nat.le_of_lt (szBl (by omega))
  have hk : (encE D.bl T).map (fun e => D.tup (e.1.map dKey)) = (T.map (·.1)).map cellP := keys_encB T
  generalize (List.range w).map (fun j : Nat => D.bl (due.testBit (1 + j))) = DU at *
  generalize tabD k (-1) w = T1 at *
  generalize ((2 ^ (w + 2) : Nat) : Int) = NI at *
  unfold f_law_below b_law_below
  simp! [ruleD, cells] at e ⊢
  simp! [hlt, e, hk, hzk]

theorem all_in (T : Tb) (hT : T.length ≤ 2000) (Ps : List (Int × Int)) (hP : Ps.length ≤ 2000) : f_are_all_in [tbD T, cells Ps] = .ok (.bl ((T.map (·.1)).all fun p => decide (p ∈ Ps))) [] := by
  obtain ⟨ρ', e, s3, h3, rfl⟩ := for_list (g := gSet 3) (body := b_are_all_in_1) (e := cellP) (fun i ρ => ∃ s3, notOwn (some s3) = true ∧ ρ = [.rd (tbD T), .rd (cells Ps), .own (.dicT false (encE D.bl (allT (Ps.take i)))), s3]) (l := Ps) (ρ := [.rd (tbD T), .rd (cells Ps), .own (.dicT false []), .emp]) ⟨.emp, rfl, rfl⟩ (fun i p ρ hi hρ => by
    obtain ⟨s3, _, rfl⟩ := hρ
    obtain ⟨x, y⟩ := p
    refine ⟨_, rfl, ?_⟩
    have l1 : i < Ps.length := (List.getElem?_eq_some_iff.mp hi).1
    have hz : (encE D.bl (allT (Ps.take i))).length < sizeLine := by
      have := allT_len (Ps.take i)
      rw [List.length_take] at this
      rw [encE_len]
      exact szBl (by omega)
    rw [take_snoc hi, allT_snoc]
    unfold b_are_all_in_1
    simp! [cellP, hz, pt_bl]
    exact ⟨_, .inl rfl, _, rfl, rfl⟩)
  rw [List.take_length] at e
  have run : ∀ S0 S1 : Slot, lcRun (gSet 3) xYes (xCmpO dInX (xVar 3) 2) [3] ((T.map (·.1)).map cellP) [] [S0, S1, .own (.dicT false (encE D.bl (allT Ps))), s3] = .ok ((T.map (·.1)).map fun p => D.bl (decide (p ∈ Ps))) [S0, S1, .own (.dicT false (encE D.bl (allT Ps))), s3] := fun S0 S1 => by
    have hq := lcMap (g := gSet 3) (tt := xYes) (te := xCmpO dInX (xVar 3) 2) (vs := [3]) (ρ := [S0, S1, .own (.dicT false (encE D.bl (allT Ps))), s3]) (e1 := cellP) (fun p => D.bl (decide (p ∈ Ps))) id (l := T.map (·.1)) (fun p _ => by
      obtain ⟨x, y⟩ := p
      have hl := lk_all Ps x y
      generalize encE D.bl (allT Ps) = TB at hl ⊢
      simp! [cellP, hl, id])
    rw [List.map_id] at hq
    exact hq
  have run := run (.rd (tbD T)) (.rd (cells Ps))
  have ha := all_map (fun p => decide (p ∈ Ps)) (T.map (·.1))
  have hz1 : ((T.map (·.1)).map cellP).length ≤ sizeLine := by rw [List.length_map, List.length_map]; exact Nat.le_of_lt (szBl (by omega))
  have hz2 : ((T.map (·.1)).map fun p => D.bl (decide (p ∈ Ps))).length ≤ sizeLine := by rw [List.length_map, List.length_map]; exact Nat.le_of_lt (szBl (by omega))
  have hk : dKeysT (tbD T) = some ((T.map (·.1)).map cellP) := by
    show some _ = _
    rw [keys_enc]
  have hk2 : (encE D.int T).map (fun e => D.tup (e.1.map dKey)) = (T.map (·.1)).map cellP := keys_enc T
  generalize (T.map (·.1)).map (fun p => D.bl (decide (p ∈ Ps))) = BL at run ha hz2
  generalize encE D.bl (allT Ps) = TB at e run
  unfold tbD at *
  generalize encE D.int T = TT at *
  generalize (T.map (·.1)).map cellP = KL at *
  unfold f_are_all_in b_are_all_in
  simp! [cells] at e run ⊢
  simp! [e, hk, hk2, hz1, h3, run, hz2, ha]
theorem next_gen {k : Int} (bs ss : List Int) {w : Nat} (hw : w = 1 ∨ w = 2 ∨ w = 3) {due : Nat} (hd : due < 32) (L : List (Int × Int)) : ∃ T : Tb, f_next_layer [tripD k bs ss w, cells L, .int (due : Int)] = .ok (tbD T) [] ∧ (T.map (·.1)).Nodup ∧ ∀ p, p ∈ T.map (·.1) ↔ Bel k bs ss w due L p := by
  have h32 : 2 ^ (w + 2) ≤ 32 := by rcases hw with rfl | rfl | rfl <;> decide
  have em := many_is k bs ss w (by omega)
  have im := ins_many k bs ss w
  have ib := ins_below k bs ss w
  have be := fun (one two : Nat) (h1 : one < 2 ^ (w + 2)) (h2 : two < 2 ^ (w + 2)) => below_is (k := k) bs ss hw h1 h2 hd
  have bm : ∀ one two c, c ∈ belowL k bs ss w one two due ↔ c < 2 ^ (w + 2) ∧ shownB k bs ss w one two c due = true := fun one two c => by
    unfold belowL
    rw [List.mem_filter, List.mem_range]
  obtain ⟨N, hN⟩ : ∃ N : Nat, 2 ^ (w + 2) = N := ⟨_, rfl⟩
  obtain ⟨NI, hNI⟩ : ∃ NI : Int, ((2 ^ (w + 2) : Nat) : Int) = NI := ⟨_, rfl⟩
  rw [hNI] at em
  generalize hTT : tripD k bs ss w = TT at *
  obtain ⟨ρ', e, T, s4, s5, s6, rfl, nT, kT⟩ := for_list (g := gsTup 2 (gsCons (gSet 4) (gsCons (gSet 5) gsNil))) (body := b_next_layer_2) (e := cellP) (fun i ρ => ∃ (T : Tb) (s4 s5 s6 : Slot), ρ = [.val TT, .rd (cells L), .val (.int (due : Int)), .own (.dicT false (encE D.int T)), s4, s5, s6] ∧ (T.map (·.1)).Nodup ∧ ∀ p, p ∈ T.map (·.1) ↔ Bel k bs ss w due (L.take i) p) (l := L)
    (ρ := [.val TT, .rd (cells L), .val (.int (due : Int)), .own (.dicT false []), .emp, .emp, .emp]) ⟨[], _, _, _, rfl, List.nodup_nil, fun p => ⟨fun h => absurd h List.not_mem_nil, fun ⟨_, _, _, _, h, _⟩ => absurd (by rw [List.take_zero] at h; exact h) (List.not_mem_nil (a := (_ : Int × Int)))⟩⟩ (fun i p ρ hi hρ => by
      obtain ⟨T, s4, s5, s6, rfl, nT, kT⟩ := hρ
      obtain ⟨O, P⟩ := p
      refine ⟨_, rfl, ?_⟩
      have hnn : ∀ p, Bel k bs ss w due (L.take (i + 1)) p ↔ Bel k bs ss w due (L.take i) p ∨ ∃ a b c : Nat, (a < 2 ^ (w + 2) ∧ b < 2 ^ (w + 2) ∧ c < 2 ^ (w + 2)) ∧ (a : Int) = O ∧ (b : Int) = P ∧ p = ((b : Int), (c : Int)) ∧ shownB k bs ss w a b c due = true := fun p => by
        rw [take_snoc hi]
        constructor
        · rintro ⟨a, b, c, h1, h2, h3, h4⟩
          rcases List.mem_append.mp h2 with h2 | h2
          · exact .inl ⟨a, b, c, h1, h2, h3, h4⟩
          · have := List.mem_singleton.mp h2
            injection this with q1 q2
            exact .inr ⟨a, b, c, h1, q1, q2, h3, h4⟩
        · rintro (⟨a, b, c, h1, h2, h3, h4⟩ | ⟨a, b, c, h1, h2, h3, h4⟩)
          · exact ⟨a, b, c, h1, List.mem_append_left _ h2, h3, h4⟩
          · exact ⟨a, b, c, h1, List.mem_append_right _ (List.mem_singleton.mpr (by rw [h2, h3])), h4⟩
      by_cases hin : (0 ≤ O ∧ O < NI) ∧ 0 ≤ P ∧ P < NI
      · obtain ⟨⟨o1, o2⟩, p1, p2⟩ := hin
        obtain ⟨a, rfl⟩ : ∃ a : Nat, (a : Int) = O := ⟨O.toNat, by omega⟩
        obtain ⟨b, rfl⟩ : ∃ a : Nat, (a : Int) = P := ⟨P.toNat, by omega⟩
        have ha : a < 2 ^ (w + 2) := by omega
        have hb : b < 2 ^ (w + 2) := by omega
        have eb := be a b ha hb
        obtain ⟨ρ', e, T', s6', rfl, n', k'⟩ := for_list (g := gSet 6) (body := b_next_layer_1) (e := fun c : Nat => D.int (c : Int)) (fun j ρ => ∃ (T' : Tb) (s6 : Slot), ρ = [.val TT, .rd (cells L), .val (.int (due : Int)), .own (.dicT false (encE D.int T')), .val (.int (a : Int)), .val (.int (b : Int)), s6] ∧ (T'.map (·.1)).Nodup ∧ ∀ p, p ∈ T'.map (·.1) ↔ p ∈ T.map (·.1) ∨ ∃ c ∈ (belowL k bs ss w a b due).take j, p = ((b : Int), (c : Int))) (l := belowL k bs ss w a b due)
          (ρ := [.val TT, .rd (cells L), .val (.int (due : Int)), .own (.dicT false (encE D.int T)), .val (.int (a : Int)), .val (.int (b : Int)), s6]) ⟨T, _, rfl, nT, fun p => ⟨.inl, fun h => h.elim id fun ⟨_, h, _⟩ => (by rw [List.take_zero] at h; exact absurd h List.not_mem_nil)⟩⟩ (fun j c ρ hj hρ => by
            obtain ⟨T', s6, rfl, n', k'⟩ := hρ
            refine ⟨_, rfl, ?_⟩
            have hlen : T'.length ≤ 1024 := by
              have := ring_le hw n' (fun p hp => (k' p).mp hp |>.elim (fun h => bel_ring ((kT p).mp h)) fun ⟨c, hc, e⟩ => by
                have := ((bm a b c).mp (List.mem_of_mem_take hc)).1
                subst e
                exact mem_ringL.mpr ⟨⟨by simp only; omega, by simp only; omega⟩, by simp only; omega, by simp only; omega⟩)
              rwa [List.length_map] at this
            have hz : (encE D.int T').length < sizeLine := by rw [encE_len]; exact szBl (by omega)
            refine ⟨_, .inl ?_, ptA T' ((b : Int), (c : Int)) (a : Int), .val (.int (c : Int)), rfl, ptA_nodup _ _ _ n', fun p => ?_⟩
            · unfold b_next_layer_1
              simp! [hz, pt_int]
            · rw [ptA_keys, k' p, take_snoc hj]
              constructor
              · rintro (h | h | ⟨c2, h3, h4⟩)
                · exact .inr ⟨c, List.mem_append_right _ (List.mem_singleton.mpr rfl), h⟩
                · exact .inl h
                · exact .inr ⟨c2, List.mem_append_left _ h3, h4⟩
              · rintro (h | ⟨c2, h3, h4⟩)
                · exact .inr (.inl h)
                · rcases List.mem_append.mp h3 with h3 | h3
                  · exact .inr (.inr ⟨c2, h3, h4⟩)
                  · rw [List.mem_singleton.mp h3] at h4
                    exact .inl h4)
        rw [List.take_length] at k'
        refine ⟨[.val TT, .rd (cells L), .val (.int (due : Int)), .own (.dicT false (encE D.int T')), .val (.int (a : Int)), .val (.int (b : Int)), s6'], .inl ?_, T', _, _, _, rfl, n', fun p => ?_⟩
        · obtain ⟨AI, hA⟩ : ∃ AI : Int, (a : Int) = AI := ⟨_, rfl⟩
          obtain ⟨BI, hB⟩ : ∃ BI : Int, (b : Int) = BI := ⟨_, rfl⟩
          rw [hA] at o1 o2
          rw [hB] at p1 p2
          rw [hA, hB] at eb e ⊢
          unfold b_next_layer_2
          simp! [natsD] at eb ⊢
          simp! [meth_ok im, em, meth_ok ib, eb, e, zhZ, zia, zib, o1, o2, p1, p2]
        · rw [k' p, kT p, hnn p]
          constructor
          · rintro (h | ⟨c, h5, h6⟩)
            · exact .inl h
            · have := (bm a b c).mp h5
              exact .inr ⟨a, b, c, ⟨ha, hb, this.1⟩, rfl, rfl, h6, this.2⟩
          · rintro (h | ⟨a2, b2, c, h5, h6, h7, h8, h9⟩)
            · exact .inl h
            · obtain rfl : a2 = a := by omega
              obtain rfl : b2 = b := by omega
              exact .inr ⟨c, (bm a2 b2 c).mpr ⟨h5.2.2, h9⟩, h8⟩
      · refine ⟨[.val TT, .rd (cells L), .val (.int (due : Int)), .own (.dicT false (encE D.int T)), .val (.int O), .val (.int P), s6], .inl ?_, T, _, _, _, rfl, nT, fun p => ?_⟩
        · unfold b_next_layer_2
          by_cases o1 : 0 ≤ O
          · by_cases o2 : O < NI
            · by_cases p1 : 0 ≤ P
              · by_cases p2 : P < NI
                · exact absurd ⟨⟨o1, o2⟩, p1, p2⟩ hin
                · simp! [meth_ok im, em, zhZ, zia, zib, zic, o1, o2, p1, p2]
              · simp! [meth_ok im, em, zhZ, zia, zib, zic, o1, o2, p1]
            · simp! [meth_ok im, em, zhZ, zia, zib, zic, o1, o2]
          · simp! [meth_ok im, em, zhZ, zia, zib, zic, o1]
        · rw [kT p, hnn p]
          refine ⟨.inl, fun h => h.elim id fun ⟨a, b, c, h5, h6, h7, h8, h9⟩ => ?_⟩
          exact absurd ⟨⟨by omega, by omega⟩, by omega, by omega⟩ hin)
  rw [List.take_length] at kT
  refine ⟨T, ?_, nT, kT⟩
  have hf : ∀ A B C D2 E F : Slot, frzR 3 [A, B, C, .own (.dicT false (encE D.int T)), D2, E, F] = some [A, B, C, .own (.dicT true (encE D.int T)), D2, E, F] := fun _ _ _ _ _ _ => rfl
  unfold f_next_layer b_next_layer
  simp! [cells] at e ⊢
  simp! [e, zhs, hf, zht, tbD]

def prevL (w : Nat) (LL : List (List (Int × Int))) : Nat → List (Int × Int)
  | 0 => ringL (2 ^ (w + 2)) (2 ^ (w + 2))
  | y + 1 => LL.getD y []
/-- the lists show that there is no father -/
def Paper (k : Int) (bs ss : List Int) (w h : Nat) (live : List (Int × Int)) (LL : List (List (Int × Int))) : Prop := LL.length = h ∧ LL.getD (h - 1) [] = [] ∧ ∀ y, y < h → ∀ p, Bel k bs ss w (dueF live y) (prevL w LL y) p → p ∈ LL.getD y []
theorem first_keys {k : Int} {bs ss : List Int} {w : Nat} {due : Nat} {T : Tb} (s : Snd (2 ^ (w + 2)) T (fun a b c => shownB k bs ss w a b c due = true)) (c : Cpl (2 ^ (w + 2)) T (fun a b c => shownB k bs ss w a b c due = true) (fun _ _ _ => True)) (p : Int × Int) : p ∈ T.map (·.1) ↔ Bel k bs ss w due (ringL (2 ^ (w + 2)) (2 ^ (w + 2))) p := by
  rw [mem_keys]
  constructor
  · intro h
    obtain ⟨v, hv⟩ := Option.isSome_iff_exists.mp h
    obtain ⟨a, b, c, h1, h2, _, h3⟩ := s p v hv
    exact ⟨a, b, c, h1, mem_ringL.mpr ⟨⟨by simp only; omega, by simp only; omega⟩, by simp only; omega, by simp only; omega⟩, h2, h3⟩
  · rintro ⟨a, b, c2, ⟨h1, h2, h3⟩, _, rfl, h4⟩
    exact c a b c2 h1 h2 h3 trivial h4
theorem at_list (LL : List (List (Int × Int))) {i : Nat} (h : i < LL.length) : atI (LL.map cells) (i : Int) = some (cells (LL.getD i [])) := by
  have := atI_at cells (l := LL) (i := i) (c := LL[i]) (List.getElem?_eq_getElem h)
  rw [this]
  simp [List.getD, List.getElem?_eq_getElem h]
theorem at_end (LL : List (List (Int × Int))) (h : 0 < LL.length) : atI (LL.map cells) (-1) = some (cells (LL.getD (LL.length - 1) [])) := by
  have hx : ixN (LL.map cells).length (-1) = some (LL.length - 1) := by
    rw [List.length_map]
    unfold ixN
    rw [if_neg (by decide), if_pos (by omega)]
    congr 1
    omega
  unfold atI
  rw [hx]
  show (LL.map cells)[LL.length - 1]? = _
  rw [List.getElem?_map, List.getElem?_eq_getElem (by omega)]
  simp [List.getD, List.getElem?_eq_getElem (show LL.length - 1 < LL.length by omega)]
theorem cells_nil (L : List (Int × Int)) : eqD (cells L) (.lst []) = some (decide (L = [])) := eq_cells L []
/-- the checks of the lists, one behind another -/
def inAll (T : Tb) (L : List (Int × Int)) : Bool := (T.map (·.1)).all fun p => decide (p ∈ L)
theorem inAll_iff (T : Tb) (L : List (Int × Int)) : inAll T L = true ↔ ∀ p ∈ T.map (·.1), p ∈ L := by
  unfold inAll
  rw [List.all_eq_true]
  exact ⟨fun h p hp => of_decide_eq_true (h p hp), fun h p hp => decide_eq_true (h p hp)⟩
theorem holds_none_g {k : Int} (hk : Kind k) (bs ss : List Int) {w h : Nat} (z : Size w h) {live : List (Int × Int)} (hb : live.all (inBox w h) = true) (nb : live.Nodup) (lb : live.length ≤ 100) (LL : List (List (Int × Int))) (hl : ∀ L ∈ LL, L.length ≤ 2000) : ∃ b : Bool, f_holds_none [ruleD k bs ss, .tup [.int (w : Int), .int (h : Int)], cells live, .lst (LL.map cells)] = .ok (.bl b) [] ∧ (b = true ↔ Paper k bs ss w h live LL) := by
  have hw := z.w
  have hh := z.h
  have N32 : 2 ^ (w + 2) ≤ 32 := by rcases hw with rfl | rfl | rfl <;> decide
  have ea := ask_is z live
  rw [if_pos hb] at ea
  have ei := init_is hk bs ss w hw
  have eri := rim_is z lb hb
  have hdue : ∀ y, dueF live y < 32 := fun y => by
    have := (rowF_bits (W := w) (by omega) nb (fun c hc => by
      have := box_of (List.all_eq_true.mp hb c hc)
      omega) (y : Int)).1
    have h8 : 2 ^ w ≤ 8 := by rcases hw with rfl | rfl | rfl <;> decide
    unfold dueF
    omega
  have hd0 : (List.range h).map (fun y : Nat => D.int ((2 * rowF live (y : Int) : Nat) : Int)) = (List.range h).map fun y : Nat => D.int ((dueF live y : Nat) : Int) := rfl
  rw [hd0] at eri
  have lenL : (((LL.map cells).length : Nat) : Int) = (LL.length : Int) := by rw [List.length_map]
  by_cases hlen : LL.length = h
  · have al := at_end LL (by omega)
    have hc0 := cells_nil (LL.getD (LL.length - 1) [])
    rw [hlen] at al hc0
    by_cases hlast : LL.getD (h - 1) [] = []
    · rw [decide_eq_true hlast] at hc0
      have hl2 : ∀ y, (LL.getD y []).length ≤ 2000 := fun y => by
        by_cases hy : y < LL.length
        · have : LL.getD y [] = LL[y] := by simp [List.getD, List.getElem?_eq_getElem hy]
          rw [this]
          exact hl _ (List.getElem_mem hy)
        · rw [show LL.getD y [] = [] by simp [List.getD, List.getElem?_eq_none (show LL.length ≤ y by omega)]]
          exact Nat.zero_le _
      obtain ⟨T, eT, nT, sT, cT⟩ := first_is (k := k) bs ss hw (hdue 0)
      have kT := first_keys sT cT
      obtain ⟨TF, hTF⟩ := Classical.axiomOfChoice (fun y : Nat => next_gen (k := k) bs ss hw (hdue (y + 1)) (LL.getD y []))
      have lT : ∀ {T : Tb} {due : Nat} {L : List (Int × Int)}, (T.map (·.1)).Nodup → (∀ p, p ∈ T.map (·.1) ↔ Bel k bs ss w due L p) → T.length ≤ 2000 := fun n' k' => by
        have := ring_le hw n' (fun p hp => bel_ring ((k' p).mp hp))
        rw [List.length_map] at this
        omega
      have e0 := all_in T (lT nT kT) (LL.getD 0 []) (hl2 0)
      have a0 := at_list LL (i := 0) (by omega)
      have d0 : atI ((List.range h).map fun y : Nat => D.int ((dueF live y : Nat) : Int)) 0 = some (.int ((dueF live 0 : Nat) : Int)) := at_map (i := 0) (fun y : Nat => D.int ((dueF live y : Nat) : Int)) (by omega)
      have c1 : ∀ (T : Tb) (xs : List D) (ρ : Rho), consR2 (tbD T) xs ρ = .ok (tbD T :: xs) ρ := fun _ _ _ => rfl
      have c2 : ∀ (L : List (Int × Int)) (xs : List D) (ρ : Rho), consR2 (cells L) xs ρ = .ok (cells L :: xs) ρ := fun _ _ _ => rfl
      have loop := fun (S0 S1 S2 : Slot) => forRun_test (g := gSet 6) (body := b_holds_none_1) (e := fun j : Nat => D.int (1 + (j : Nat))) (p := fun j => inAll (TF j) (LL.getD (j + 1) [])) (v := .bl false) (fun ρ => ∃ s6, ρ = [S0, S1, S2, .val (.lst (LL.map cells)), .val (tripD k bs ss w), .val (.lst ((List.range h).map fun y : Nat => D.int ((dueF live y : Nat) : Int))), s6]) (List.range (h - 1)) [S0, S1, S2, .val (.lst (LL.map cells)), .val (tripD k bs ss w), .val (.lst ((List.range h).map fun y : Nat => D.int ((dueF live y : Nat) : Int))), .emp] ⟨_, rfl⟩ (fun j hj ρ hρ => by
        obtain ⟨s6, rfl⟩ := hρ
        have hj := List.mem_range.mp hj
        refine ⟨_, rfl, _, ⟨.val (.int (1 + (j : Int))), rfl⟩, ?_⟩
        obtain ⟨eN, nN, kN⟩ := hTF j
        have eal := all_in (TF j) (lT nN kN) (LL.getD (j + 1) []) (hl2 _)
        have a1 := at_list LL (i := j) (by omega)
        have a2 := at_list LL (i := j + 1) (by omega)
        have d1 : atI ((List.range h).map fun y : Nat => D.int ((dueF live y : Nat) : Int)) ((j + 1 : Nat) : Int) = some (.int ((dueF live (j + 1) : Nat) : Int)) := at_map (i := j + 1) (fun y : Nat => D.int ((dueF live y : Nat) : Int)) (by omega)
        have h1 : ((j : Int) + 1) - 1 = (j : Int) := by omega
        have q : ((j + 1 : Nat) : Int) = (j : Int) + 1 := by omega
        rw [q] at a2 d1
        have c1 := c1 (TF j)
        have c3 := c2 (LL.getD j [])
        have c4 := c2 (LL.getD (j + 1) [])
        show (inAll (TF j) (LL.getD (j + 1) []) = true ∧ _) ∨ (inAll (TF j) (LL.getD (j + 1) []) = false ∧ _)
        have hia : ((TF j).map (·.1)).all (fun p => decide (p ∈ LL.getD (j + 1) [])) = inAll (TF j) (LL.getD (j + 1) []) := rfl
        rw [hia] at eal
        generalize inAll (TF j) (LL.getD (j + 1) []) = B at *
        rw [show (1 : Int) + (j : Int) = (j : Int) + 1 by omega]
        generalize (List.range h).map (fun y : Nat => D.int ((dueF live y : Nat) : Int)) = DL at *
        generalize LL.map cells = LC at *
        generalize cells (LL.getD j []) = C1 at *
        generalize cells (LL.getD (j + 1) []) = C2 at *
        generalize tbD (TF j) = TB at *
        generalize dueF live (j + 1) = DU at *
        generalize tripD k bs ss w = TT at *
        obtain ⟨DI, hDI⟩ : ∃ DI : Int, (DU : Int) = DI := ⟨_, rfl⟩
        rw [hDI] at d1 eN
        obtain ⟨J, hJ⟩ : ∃ J : Int, (j : Int) = J := ⟨_, rfl⟩
        rw [hJ] at h1 a1 a2 d1 ⊢
        cases B with
        | true =>
          refine .inl ⟨rfl, .inl ?_⟩
          unfold b_holds_none_1
          simp! [h1, a1, a2, d1, c3, eN, c1, c4, eal]
        | false =>
          refine .inr ⟨rfl, ?_⟩
          unfold b_holds_none_1
          simp! [h1, a1, a2, d1, c3, eN, c1, c4, eal])
      have hP : Paper k bs ss w h live LL ↔ inAll T (LL.getD 0 []) = true ∧ (List.range (h - 1)).all (fun j => inAll (TF j) (LL.getD (j + 1) [])) = true := by
        rw [inAll_iff, List.all_eq_true]
        constructor
        · rintro ⟨_, _, h3⟩
          refine ⟨fun p hp => h3 0 (by omega) p ((kT p).mp hp), fun j hj => (inAll_iff _ _).mpr fun p hp => ?_⟩
          have hj := List.mem_range.mp hj
          exact h3 (j + 1) (by omega) p (((hTF j).2.2 p).mp hp)
        · rintro ⟨h3, h4⟩
          refine ⟨hlen, hlast, fun y hy p hp => ?_⟩
          cases y with
          | zero => exact h3 p ((kT p).mpr hp)
          | succ j => exact (inAll_iff _ _).mp (h4 j (List.mem_range.mpr (by omega))) p (((hTF j).2.2 p).mpr hp)
      rw [hP]
      have hia : (T.map (·.1)).all (fun p => decide (p ∈ LL.getD 0 [])) = inAll T (LL.getD 0 []) := rfl
      rw [hia] at e0
      have c1 := c1 T
      have c2 := c2 (LL.getD 0 [])
      have loop := loop (.val (ruleD k bs ss)) (.val (.tup [.int (w : Int), .int (h : Int)])) (.rd (cells live))
      have hrg : (List.range (h - 1)).map (fun j : Nat => D.int (1 + (j : Nat))) = rangeD 1 (h - 1) := rfl
      rw [hrg] at loop
      have hz : (rangeD 1 (h - 1)).length ≤ sizeLine := by rw [rangeD_len]; exact szn (by omega)
      have hsub : ((h : Int) - 1).toNat = h - 1 := by omega
      have hr2 : inR (h : Int) = true := inR_of (by omega)
      rw [hlen] at lenL
      have eT : f_first_layer [tripD k bs ss w, .int ((dueF live 0 : Nat) : Int)] = .ok (tbD T) [] := eT
      have a0 : atI (LL.map cells) 0 = some (cells (LL.getD 0 [])) := a0
      generalize dueF live 0 = D0 at d0 eT
      obtain ⟨HI, hHI⟩ : ∃ HI : Int, (h : Int) = HI := ⟨_, rfl⟩
      obtain ⟨Wi, hWi⟩ : ∃ Wi : Int, (w : Int) = Wi := ⟨_, rfl⟩
      obtain ⟨DI, hDI⟩ : ∃ DI : Int, (D0 : Int) = DI := ⟨_, rfl⟩
      rw [hHI] at eri loop hsub hr2 ea lenL ⊢
      rw [hWi] at ei eri loop ea ⊢
      rw [hDI] at d0 eT
      generalize (List.range (h - 1)).all (fun j => inAll (TF j) (LL.getD (j + 1) [])) = B2 at *
      generalize inAll T (LL.getD 0 []) = B1 at *
      generalize (List.range h).map (fun y : Nat => D.int ((dueF live y : Nat) : Int)) = DL at *
      generalize cells (LL.getD 0 []) = L0 at *
      generalize cells (LL.getD (h - 1) []) = LX at *
      generalize LL.map cells = LC at *
      generalize tbD T = TB at *
      generalize tripD k bs ss w = TT at *
      clear hTF hP hdue hia
      refine ⟨B1 && B2, ?_, by rw [Bool.and_eq_true]⟩
      obtain ⟨ρ', ⟨s6, rfl⟩, lp⟩ := loop
      cases B1 with
      | false =>
        clear lp
        unfold f_holds_none b_holds_none
        simp! [cells, ruleD] at ea ei eri ⊢
        simp! [ea, ei, eri, lenL, al, hc0, a0, d0, c1, c2, eT, e0, Bool.false_and]
      | true =>
        rcases lp with ⟨rfl, e⟩ | ⟨rfl, e⟩
        · unfold f_holds_none b_holds_none
          simp! [cells, ruleD] at ea ei eri e ⊢
          simp! [ea, ei, eri, lenL, al, hc0, a0, d0, c1, c2, eT, e0, hr2, hsub, hz, e, Bool.true_and]
        · unfold f_holds_none b_holds_none
          simp! [cells, ruleD] at ea ei eri e ⊢
          simp! [ea, ei, eri, lenL, al, hc0, a0, d0, c1, c2, eT, e0, hr2, hsub, hz, e, Bool.true_and]
    · rw [decide_eq_false hlast] at hc0
      refine ⟨false, ?_, ⟨fun h => (nomatch h), fun h => absurd h.2.1 hlast⟩⟩
      rw [hlen] at lenL
      obtain ⟨HI, hHI⟩ : ∃ HI : Int, (h : Int) = HI := ⟨_, rfl⟩
      obtain ⟨Wi, hWi⟩ : ∃ Wi : Int, (w : Int) = Wi := ⟨_, rfl⟩
      rw [hHI] at ea lenL ⊢
      rw [hWi] at ea ⊢
      generalize cells (LL.getD (h - 1) []) = LX at *
      generalize LL.map cells = LC at *
      unfold f_holds_none b_holds_none
      simp! [cells, ruleD] at ea ⊢
      simp! [ea, lenL, al, hc0]
  · refine ⟨false, ?_, ⟨fun h => (nomatch h), fun h => absurd h.1 hlen⟩⟩
    have hne : ¬ ((LL.length : Int) = (h : Int)) := by omega
    obtain ⟨HI, hHI⟩ : ∃ HI : Int, (h : Int) = HI := ⟨_, rfl⟩
    obtain ⟨Wi, hWi⟩ : ∃ Wi : Int, (w : Int) = Wi := ⟨_, rfl⟩
    obtain ⟨LI, hLI⟩ : ∃ LI : Int, (LL.length : Int) = LI := ⟨_, rfl⟩
    rw [hHI] at ea hne ⊢
    rw [hWi] at ea ⊢
    rw [hLI] at lenL hne
    generalize LL.map cells = LC at *
    unfold f_holds_none b_holds_none
    simp! [cells, ruleD] at ea ⊢
    simp! [ea, lenL, hne, decide_false]

theorem first_none {r : Nat → Option D} : ∀ (n k : Nat), first r k n = none → ∀ i, i < n → r (k + i) = none
  | 0, _, _, i, hi => absurd hi (Nat.not_lt_zero _)
  | n + 1, k, h, i, hi => by
    have h : (r k).or (first r (k + 1) n) = none := h
    cases hr : r k with
    | some v => rw [hr] at h; cases h
    | none =>
      rw [hr] at h
      cases i with
      | zero => exact hr
      | succ i =>
        have := first_none n (k + 1) h i (by omega)
        rwa [show k + (i + 1) = k + 1 + i by omega]
theorem first_some {r : Nat → Option D} {v : D} : ∀ (n k : Nat), first r k n = some v → ∃ i, i < n ∧ r (k + i) = some v
  | 0, _, h => nomatch (show (none : Option D) = some v from h)
  | n + 1, k, h => by
    have h : (r k).or (first r (k + 1) n) = some v := h
    cases hr : r k with
    | some u =>
      rw [hr] at h
      exact ⟨0, by omega, by rw [Nat.add_zero, hr]; exact h⟩
    | none =>
      rw [hr] at h
      obtain ⟨i, hi, e⟩ := first_some n (k + 1) h
      exact ⟨i + 1, by omega, by rwa [show k + (i + 1) = k + 1 + i by omega]⟩
def allP (N : Nat) : List (Int × Int) := (List.range N).flatMap fun a : Nat => (List.range N).map fun b : Nat => ((a : Int), (b : Int))
theorem mem_allP (N : Nat) (p : Int × Int) : p ∈ allP N ↔ p ∈ ringL N N := by
  unfold allP
  rw [List.mem_flatMap, mem_ringL]
  obtain ⟨x, y⟩ := p
  constructor
  · rintro ⟨a, ha, h⟩
    obtain ⟨b, hb, e⟩ := List.mem_map.mp h
    have ha := List.mem_range.mp ha
    have hb := List.mem_range.mp hb
    injection e with e1 e2
    simp only
    omega
  · rintro ⟨⟨h1, h2⟩, h3, h4⟩
    simp only at h1 h2 h3 h4
    exact ⟨x.toNat, List.mem_range.mpr (by omega), List.mem_map.mpr ⟨y.toNat, List.mem_range.mpr (by omega), by rw [Int.toNat_of_nonneg h1, Int.toNat_of_nonneg h3]⟩⟩
theorem every_is {w : Nat} (hw : w = 1 ∨ w = 2 ∨ w = 3) : f_law_every [.int ((2 ^ (w + 2) : Nat) : Int)] = .ok (cells (allP (2 ^ (w + 2)))) [] := by
  rcases hw with rfl | rfl | rfl
  · kernel_rfl
  · kernel_rfl
  · kernel_rfl
theorem bel_ext {k : Int} {bs ss : List Int} {w due : Nat} {L M : List (Int × Int)} (h : ∀ p, p ∈ L ↔ p ∈ M) (p : Int × Int) : Bel k bs ss w due L p ↔ Bel k bs ss w due M p := by
  constructor
  · rintro ⟨a, b, c, h1, h2, h3, h4⟩
    exact ⟨a, b, c, h1, (h _).mp h2, h3, h4⟩
  · rintro ⟨a, b, c, h1, h2, h3, h4⟩
    exact ⟨a, b, c, h1, (h _).mpr h2, h3, h4⟩
def prevA (w : Nat) (LL : List (List (Int × Int))) : Nat → List (Int × Int)
  | 0 => allP (2 ^ (w + 2))
  | y + 1 => LL.getD y []
theorem prevA_mem (w : Nat) (LL : List (List (Int × Int))) (y : Nat) (p : Int × Int) : p ∈ prevA w LL y ↔ p ∈ prevL w LL y := by
  cases y with
  | zero => exact mem_allP _ p
  | succ y => exact Iff.rfl
theorem due_bit {w : Nat} (hw : w ≤ 3) {h : Nat} {live : List (Int × Int)} (hb : live.all (inBox w h) = true) (nb : live.Nodup) (y : Nat) {x : Nat} (hx : x < w) : (dueF live y).testBit (1 + x) = decide (((x : Int), (y : Int)) ∈ live) := by
  have := (rowF_bits (W := w) (by omega) nb (fun c hc => by
    have := box_of (List.all_eq_true.mp hb c hc)
    omega) (y : Int)).2 x hx
  unfold dueF
  rw [← this, show 1 + x = x + 1 by omega, Nat.testBit_succ]
  congr 1
  omega
theorem tabs_run {k : Int} (hk : Kind k) (bs ss : List Int) {w : Nat} (hw : w = 1 ∨ w = 2 ∨ w = 3) (h : Int) (g : XG) (hg : g = gSet 5) (S2 S3 S4 S6 S7 S8 S9 S10 S11 : Slot) : lcRun (gSet 5) xYes (xCall f_law_table (xCons (xVar 0) (xCons (xOp2 dIx (xVar 1) (xC (.int 0))) (xCons (xVar 5) xNil)))) [5] (rangeD (-1) 3) [] [.val (ruleD k bs ss), .val (.tup [.int (w : Int), .int h]), S2, S3, S4, .emp, S6, S7, S8, S9, S10, S11] = .ok [tabD k (-1) w, tabD k 0 w, tabD k 1 w] [.val (ruleD k bs ss), .val (.tup [.int (w : Int), .int h]), S2, S3, S4, .emp, S6, S7, S8, S9, S10, S11] := by
  have hr : rangeD (-1) 3 = ([-1, 0, 1] : List Int).map D.int := rfl
  rw [hr]
  have hq := lcMap (g := gSet 5) (tt := xYes) (te := xCall f_law_table (xCons (xVar 0) (xCons (xOp2 dIx (xVar 1) (xC (.int 0))) (xCons (xVar 5) xNil)))) (vs := [5]) (ρ := [.val (ruleD k bs ss), .val (.tup [.int (w : Int), .int h]), S2, S3, S4, .emp, S6, S7, S8, S9, S10, S11]) (e1 := D.int) (fun s => tabD k s w) id (l := [-1, 0, 1]) (fun s hs => by
    have e := ltable_is hk bs ss s (by simp at hs; omega) w hw
    show _ = Res.ok (some (tabD k s w)) _
    generalize tabD k s w = TS at *
    generalize ruleD k bs ss = RD at *
    generalize (w : Int) = W at *
    simp! [e, id])
  rw [List.map_id] at hq
  exact hq

/-- one row of the law's look -/
theorem paper_row {k : Int} (bs ss : List Int) {w h : Nat} (hw : w = 1 ∨ w = 2 ∨ w = 3) {live : List (Int × Int)} (hb : live.all (inBox w h) = true) (nb : live.Nodup) (LL : List (List (Int × Int))) (hl : ∀ y, (LL.getD y []).length ≤ 2000) (hh : LL.length = h) (S0r S1 : Slot) (hS1 : S1 = .val (.tup [.int (w : Int), .int (h : Int)])) (S5 : Slot) (y : Nat) (hy : y < h) (s8 s9 s10 : Slot) (h10 : notOwn (some s10) = true) (L : List (Int × Int)) :
    ∃ (b : Bool) (s8' s9' s10' : Slot), notOwn (some s10') = true ∧ (b = true ↔ ∀ p, Bel k bs ss w (dueF live y) L p → p ∈ LL.getD y []) ∧ b_law_is_paper_3 [.val (ruleD k bs ss), S1, .val (cells live), .val (.lst (LL.map cells)), .val (.lst [tabD k (-1) w, tabD k 0 w, tabD k 1 w]), S5, .val (cells L), .val (.int (y : Int)), s8, s9, s10, .emp] = if b = true then .nx [.val (ruleD k bs ss), S1, .val (cells live), .val (.lst (LL.map cells)), .val (.lst [tabD k (-1) w, tabD k 0 w, tabD k 1 w]), S5, .val (cells (LL.getD y [])), .val (.int (y : Int)), s8', s9', s10', .emp] else .ret (.bl false) [.val (ruleD k bs ss), S1, .val (cells live), .val (.lst (LL.map cells)), .val (.lst [tabD k (-1) w, tabD k 0 w, tabD k 1 w]), S5, .val (cells L), .val (.int (y : Int)), s8', s9', s10', .emp] := by
  subst hS1
  obtain ⟨R, eR, nR, kR⟩ := lbelow_is (k := k) bs ss hw (dueF live y) L
  have hdl : (List.range w).map (fun j : Nat => D.bl ((dueF live y).testBit (1 + j))) = (List.range w).map fun j : Nat => D.bl (decide (((j : Int), (y : Int)) ∈ live)) := List.map_congr_left fun j hj => by rw [due_bit (by omega) hb nb y (List.mem_range.mp hj)]
  rw [hdl] at eR
  have r1 : ∀ S6 : Slot, lcRun (gSet 11) xYes (xOp2 dInX (xOpL dTup (xCons (xVar 11) (xCons (xVar 7) xNil))) (xVar 2)) [11] (rangeD 0 w) [] [.val (ruleD k bs ss), .val (.tup [.int (w : Int), .int (h : Int)]), .val (cells live), .val (.lst (LL.map cells)), .val (.lst [tabD k (-1) w, tabD k 0 w, tabD k 1 w]), S5, S6, .val (.int (y : Int)), s8, s9, s10, .emp] = .ok ((List.range w).map fun j : Nat => D.bl (decide (((j : Int), (y : Int)) ∈ live))) [.val (ruleD k bs ss), .val (.tup [.int (w : Int), .int (h : Int)]), .val (cells live), .val (.lst (LL.map cells)), .val (.lst [tabD k (-1) w, tabD k 0 w, tabD k 1 w]), S5, S6, .val (.int (y : Int)), s8, s9, s10, .emp] := fun S6 => by
    have hr : rangeD 0 w = (List.range w).map fun j : Nat => D.int (j : Int) := by
      unfold rangeD
      exact List.map_congr_left fun j _ => by rw [Int.zero_add]
    rw [hr]
    have hq := lcMap (g := gSet 11) (tt := xYes) (te := xOp2 dInX (xOpL dTup (xCons (xVar 11) (xCons (xVar 7) xNil))) (xVar 2)) (vs := [11]) (ρ := [.val (ruleD k bs ss), .val (.tup [.int (w : Int), .int (h : Int)]), .val (cells live), .val (.lst (LL.map cells)), .val (.lst [tabD k (-1) w, tabD k 0 w, tabD k 1 w]), S5, S6, .val (.int (y : Int)), s8, s9, s10, .emp]) (e1 := fun j : Nat => D.int (j : Int)) (fun j : Nat => D.bl (decide (((j : Int), (y : Int)) ∈ live))) id (l := List.range w) (fun j _ => by
      have hi : inD (.tup [.int (j : Int), .int (y : Int)]) (.lst (live.map cellP)) = some (decide (((j : Int), (y : Int)) ∈ live)) := inD_enc (α := Int × Int) (by decide) ((j : Int), (y : Int)) live
      generalize D.lst [tabD k (-1) w, tabD k 0 w, tabD k 1 w] = TBS
      generalize ruleD k bs ss = RD
      show _ = Res.ok (some (D.bl (decide (((j : Int), (y : Int)) ∈ live)))) _
      generalize decide (((j : Int), (y : Int)) ∈ live) = BB at *
      simp! [cells, hi, id])
    rw [List.map_id] at hq
    exact hq
  have r1 := r1 (.val (cells L))
  have hr : inR (w : Int) = true := inR_of (by omega)
  have hTw : ((w : Int)).toNat = w := Int.toNat_natCast w
  have hzr : (rangeD 0 w).length ≤ sizeLine := by rw [rangeD_len]; exact szn (by omega)
  have hzd : ((List.range w).map fun j : Nat => D.bl (decide (((j : Int), (y : Int)) ∈ live))).length ≤ sizeLine := by rw [List.length_map, List.length_range]; exact szn (by omega)
  have ay := at_list LL (i := y) (by omega)
  have hPs := hl y
  generalize LL.getD y [] = Ps at *
  generalize hDU : (List.range w).map (fun j : Nat => D.bl (decide (((j : Int), (y : Int)) ∈ live))) = DU at *
  generalize hTB : D.lst [tabD k (-1) w, tabD k 0 w, tabD k 1 w] = TBS at *
  generalize ruleD k bs ss = RD at *
  generalize LL.map cells = LC at *
  obtain ⟨Wi, hWi⟩ : ∃ Wi : Int, (w : Int) = Wi := ⟨_, rfl⟩
  obtain ⟨Hi, hHi⟩ : ∃ Hi : Int, (h : Int) = Hi := ⟨_, rfl⟩
  obtain ⟨Y, hY⟩ : ∃ Y : Int, (y : Int) = Y := ⟨_, rfl⟩
  rw [hWi] at r1 hr hTw ⊢
  rw [hHi] at r1 ⊢
  rw [hY] at r1 ay ⊢
  obtain ⟨ρ', e, t10, g10, rfl⟩ := for_list (g := gSet 10) (body := b_law_is_paper_1) (e := cellP) (fun i ρ => ∃ s10, notOwn (some s10) = true ∧ ρ = [.val RD, .val (.tup [.int Wi, .int Hi]), .val (cells live), .val (.lst LC), .val TBS, S5, .val (cells L), .val (.int Y), .val (.lst DU), .own (.dicT false (encE D.bl (allT (Ps.take i)))), s10, .emp]) (l := Ps) (ρ := [.val RD, .val (.tup [.int Wi, .int Hi]), .val (cells live), .val (.lst LC), .val TBS, S5, .val (cells L), .val (.int Y), .val (.lst DU), .own (.dicT false []), s10, .emp]) ⟨s10, h10, rfl⟩ (fun i p ρ hi hρ => by
    obtain ⟨s3, _, rfl⟩ := hρ
    obtain ⟨x, y⟩ := p
    refine ⟨_, rfl, ?_⟩
    have l1 : i < Ps.length := (List.getElem?_eq_some_iff.mp hi).1
    have hz : (encE D.bl (allT (Ps.take i))).length < sizeLine := by
      have := allT_len (Ps.take i)
      rw [List.length_take] at this
      rw [encE_len]
      exact szBl (by omega)
    rw [take_snoc hi, allT_snoc]
    unfold b_law_is_paper_1
    simp! [cellP, hz, pt_bl]
    exact ⟨_, .inl rfl, _, rfl, rfl⟩)
  rw [List.take_length] at e
  obtain ⟨ρ', ⟨u10, k10, rfl⟩, lp⟩ := forRun_test (g := gSet 10) (body := b_law_is_paper_2) (e := cellP) (p := fun p => decide (p ∈ Ps)) (v := .bl false) (fun ρ => ∃ s10, notOwn (some s10) = true ∧ ρ = [.val RD, .val (.tup [.int Wi, .int Hi]), .val (cells live), .val (.lst LC), .val TBS, S5, .val (cells L), .val (.int Y), .val (.lst DU), .own (.dicT false (encE D.bl (allT Ps))), s10, .emp]) R [.val RD, .val (.tup [.int Wi, .int Hi]), .val (cells live), .val (.lst LC), .val TBS, S5, .val (cells L), .val (.int Y), .val (.lst DU), .own (.dicT false (encE D.bl (allT Ps))), t10, .emp] ⟨_, g10, rfl⟩ (fun p _ ρ hρ => by
    obtain ⟨s3, _, rfl⟩ := hρ
    obtain ⟨x, y⟩ := p
    refine ⟨_, rfl, _, ⟨.val (cellP (x, y)), rfl, rfl⟩, ?_⟩
    have hl := lk_all Ps x y
    show (decide ((x, y) ∈ Ps) = true ∧ _) ∨ (decide ((x, y) ∈ Ps) = false ∧ _)
    generalize decide ((x, y) ∈ Ps) = B at *
    generalize encE D.bl (allT Ps) = TB at hl ⊢
    cases B with
    | true =>
      refine .inl ⟨rfl, .inl ?_⟩
      unfold b_law_is_paper_2
      simp! [cellP, hl]
    | false =>
      refine .inr ⟨rfl, ?_⟩
      unfold b_law_is_paper_2
      simp! [cellP, hl])
  have hiff : R.all (fun p => decide (p ∈ Ps)) = true ↔ ∀ p, Bel k bs ss w (dueF live y) L p → p ∈ Ps := by
    rw [List.all_eq_true]
    exact ⟨fun h p hp => of_decide_eq_true (h p ((kR p).mpr hp)), fun h p hp => decide_eq_true (h p ((kR p).mp hp))⟩
  generalize encE D.bl (allT Ps) = TB at e lp
  refine ⟨R.all fun p => decide (p ∈ Ps), .val (.lst DU), .own (.dicT false TB), u10, k10, hiff, ?_⟩
  rcases lp with ⟨hc, lp⟩ | ⟨hc, lp⟩
  · rw [hc, if_pos rfl]
    unfold b_law_is_paper_3
    simp! [cells] at e eR lp r1 ay ⊢
    simp! [hr, hTw, hzr, r1, hzd, ay, e, eR, lp]
  · rw [hc, if_neg (by decide)]
    unfold b_law_is_paper_3
    simp! [cells] at e eR lp r1 ay ⊢
    simp! [hr, hTw, hzr, r1, hzd, ay, e, eR, lp]

theorem bools (P : Nat → Prop) : ∃ f : Nat → Bool, ∀ y, f y = true ↔ P y := Classical.axiomOfChoice (r := fun (y : Nat) (b : Bool) => b = true ↔ P y) fun y => (Classical.em (P y)).elim (fun h => ⟨true, ⟨fun _ => h, fun _ => rfl⟩⟩) fun h => ⟨false, ⟨fun e => (nomatch e), fun z => absurd z h⟩⟩
theorem lpaper_is {k : Int} (hk : Kind k) (bs ss : List Int) {w h : Nat} (z : Size w h) {live : List (Int × Int)} (hb : live.all (inBox w h) = true) (nb : live.Nodup) (LL : List (List (Int × Int))) (hl : ∀ L ∈ LL, L.length ≤ 2000) : ∃ b : Bool, f_law_is_paper [ruleD k bs ss, .tup [.int (w : Int), .int (h : Int)], cells live, .lst (LL.map cells)] = .ok (.bl b) [] ∧ (b = true ↔ Paper k bs ss w h live LL) := by
  have hw := z.w
  have hh := z.h
  have lenL : (((LL.map cells).length : Nat) : Int) = (LL.length : Int) := by rw [List.length_map]
  by_cases hlen : LL.length = h
  · have al := at_end LL (by omega)
    have hc0 := cells_nil (LL.getD (LL.length - 1) [])
    rw [hlen] at al hc0
    by_cases hlast : LL.getD (h - 1) [] = []
    · rw [decide_eq_true hlast] at hc0
      have hl2 : ∀ y, (LL.getD y []).length ≤ 2000 := fun y => by
        by_cases hy : y < LL.length
        · have : LL.getD y [] = LL[y] := by simp [List.getD, List.getElem?_eq_getElem hy]
          rw [this]
          exact hl _ (List.getElem_mem hy)
        · rw [show LL.getD y [] = [] by simp [List.getD, List.getElem?_eq_none (show LL.length ≤ y by omega)]]
          exact Nat.zero_le _
      obtain ⟨f, hf⟩ := bools fun y => ∀ p, Bel k bs ss w (dueF live y) (prevA w LL y) p → p ∈ LL.getD y []
      obtain ⟨ρ', lp⟩ := forRun_first (g := gSet 7) (body := b_law_is_paper_3) (e := fun y : Nat => D.int (y : Int)) (fun y ρ => ∃ s7 s8 s9 s10, notOwn (some s10) = true ∧ ρ = [.val (ruleD k bs ss), .val (.tup [.int (w : Int), .int (h : Int)]), .val (cells live), .val (.lst (LL.map cells)), .val (.lst [tabD k (-1) w, tabD k 0 w, tabD k 1 w]), .emp, .val (cells (prevA w LL y)), s7, s8, s9, s10, .emp]) (fun y => if f y = true then none else some (.bl false)) (List.range h) 0 [.val (ruleD k bs ss), .val (.tup [.int (w : Int), .int (h : Int)]), .val (cells live), .val (.lst (LL.map cells)), .val (.lst [tabD k (-1) w, tabD k 0 w, tabD k 1 w]), .emp, .val (cells (allP (2 ^ (w + 2)))), .emp, .emp, .emp, .emp, .emp] ⟨_, _, _, _, rfl, rfl⟩ (fun i a ρ hi hρ => by
        obtain ⟨s7, s8, s9, s10, h10, rfl⟩ := hρ
        have hlt := (List.getElem?_eq_some_iff.mp hi).1
        rw [List.length_range] at hlt
        rw [List.getElem?_range hlt] at hi
        obtain rfl := Option.some.inj hi
        obtain ⟨b, s8', s9', s10', g10, hiff, e⟩ := paper_row (k := k) bs ss hw hb nb LL hl2 hlen .emp _ rfl .emp i hlt s8 s9 s10 h10 (prevA w LL i)
        refine ⟨_, rfl, ?_⟩
        have hbf : f i = b := by
          rw [Bool.eq_iff_iff, hf i, hiff]
        rw [Nat.zero_add]
        cases b with
        | true =>
          rw [if_pos rfl] at e
          exact ⟨_, .inl ⟨if_pos hbf, .inl e, _, _, _, _, g10, rfl⟩⟩
        | false =>
          rw [if_neg (by decide)] at e
          exact ⟨_, .inr ⟨.bl false, if_neg (by rw [hbf]; decide), e⟩⟩)
      rw [List.length_range, Nat.zero_add] at lp
      have hrg : (List.range h).map (fun y : Nat => D.int (y : Int)) = rangeD 0 h := by
        unfold rangeD
        exact List.map_congr_left fun j _ => by rw [Int.zero_add]
      rw [hrg] at lp
      have tr := fun S2 S3 S4 S6 S7 S8 S9 S10 S11 => tabs_run hk bs ss hw (h : Int) (gSet 5) rfl S2 S3 S4 S6 S7 S8 S9 S10 S11
      have tr := tr (.val (cells live)) (.val (.lst (LL.map cells))) .emp .emp .emp .emp .emp .emp .emp
      have ev := every_is hw
      have htl : dLen [tabD k (-1) w] = some (.int ((2 ^ (w + 2) : Nat) : Int)) := by
        unfold tabD
        show some (D.int (((List.range (2 ^ (w + 2))).map _).length : Nat)) = _
        rw [List.length_map, List.length_range]
      have hP : Paper k bs ss w h live LL ↔ ∀ y, y < h → f y = true := by
        constructor
        · rintro ⟨_, _, h3⟩ y hy
          exact (hf y).mpr fun p hp => h3 y hy p ((bel_ext (prevA_mem w LL y) p).mp hp)
        · intro h3
          exact ⟨hlen, hlast, fun y hy p hp => (hf y).mp (h3 y hy) p ((bel_ext (prevA_mem w LL y) p).mpr hp)⟩
      rw [hP]
      have hz3 : (rangeD (-1) 3).length ≤ sizeLine := by rw [rangeD_len]; exact szn (by omega)
      have hz4 : ([tabD k (-1) w, tabD k 0 w, tabD k 1 w] : List D).length ≤ sizeLine := szn (show 3 ≤ 1000 by omega)
      have hr2 : inR (h : Int) = true := inR_of (by omega)
      have hTh : ((h : Int)).toNat = h := Int.toNat_natCast h
      have i1 : inR (-1 : Int) = true := inR_of (by omega)
      have i2 : inR (2 : Int) = true := inR_of (by omega)
      rw [hlen] at lenL
      clear hf hP
      obtain ⟨HI, hHI⟩ : ∃ HI : Int, (h : Int) = HI := ⟨_, rfl⟩
      obtain ⟨Wi, hWi⟩ : ∃ Wi : Int, (w : Int) = Wi := ⟨_, rfl⟩
      obtain ⟨NI, hNI⟩ : ∃ NI : Int, ((2 ^ (w + 2) : Nat) : Int) = NI := ⟨_, rfl⟩
      rw [hHI] at lp tr hr2 hTh lenL ⊢
      rw [hWi] at lp tr ⊢
      rw [hNI] at ev htl
      generalize cells (LL.getD (h - 1) []) = LX at *
      generalize LL.map cells = LC at *
      generalize allP (2 ^ (w + 2)) = AP at *
      generalize tabD k (-1) w = T1 at *
      generalize tabD k 0 w = T2 at *
      generalize tabD k 1 w = T3 at *
      rcases lp with ⟨h1, e, _⟩ | ⟨v, h1, e⟩
      · refine ⟨true, ?_, fun _ y hy => ?_, fun _ => rfl⟩
        · unfold f_law_is_paper b_law_is_paper
          simp! [cells, ruleD] at e tr ev ⊢
          simp! [lenL, al, hc0, i1, i2, hz3, tr, hz4, htl, ev, hr2, hTh, e]
        · have := first_none h 0 h1 y hy
          rw [Nat.zero_add] at this
          cases hfy : f y with
          | true => rfl
          | false => rw [hfy] at this; cases this
      · obtain ⟨i, hi, e1⟩ := first_some h 0 h1
        rw [Nat.zero_add] at e1
        have hfi : f i = false := by
          cases hfy : f i with
          | true => rw [hfy] at e1; cases e1
          | false => rfl
        rw [hfi] at e1
        have hv : v = .bl false := (Option.some.inj e1).symm
        subst hv
        refine ⟨false, ?_, fun h => (nomatch h), fun h => by rw [h i hi] at hfi; cases hfi⟩
        unfold f_law_is_paper b_law_is_paper
        simp! [cells, ruleD] at e tr ev ⊢
        simp! [lenL, al, hc0, i1, i2, hz3, tr, hz4, htl, ev, hr2, hTh, e]
    · rw [decide_eq_false hlast] at hc0
      refine ⟨false, ?_, ⟨fun h => (nomatch h), fun h => absurd h.2.1 hlast⟩⟩
      rw [hlen] at lenL
      obtain ⟨HI, hHI⟩ : ∃ HI : Int, (h : Int) = HI := ⟨_, rfl⟩
      rw [hHI] at lenL ⊢
      generalize cells (LL.getD (h - 1) []) = LX at *
      generalize LL.map cells = LC at *
      unfold f_law_is_paper b_law_is_paper
      simp! [cells, ruleD]
      simp! [lenL, al, hc0]
  · refine ⟨false, ?_, ⟨fun h => (nomatch h), fun h => absurd h.1 hlen⟩⟩
    have hne : ¬ ((LL.length : Int) = (h : Int)) := by omega
    obtain ⟨HI, hHI⟩ : ∃ HI : Int, (h : Int) = HI := ⟨_, rfl⟩
    obtain ⟨LI, hLI⟩ : ∃ LI : Int, (LL.length : Int) = LI := ⟨_, rfl⟩
    rw [hHI] at hne ⊢
    rw [hLI] at lenL hne
    generalize LL.map cells = LC at *
    unfold f_law_is_paper b_law_is_paper
    simp! [cells, ruleD]
    simp! [lenL, hne, decide_false]
/-- counts that were drawn: rising, from 0 on -/
def Cts (m : Int) (as : List Int) : Prop := as.Pairwise (· < ·) ∧ ∀ a ∈ as, 0 ≤ a ∧ a < m
theorem Cts.snoc {m : Nat} {as : List Int} (h : Cts (m : Int) as) : Cts ((m + 1 : Nat) : Int) (as ++ [(m : Int)]) := by
  refine ⟨List.pairwise_append.mpr ⟨h.1, List.pairwise_singleton _ _, fun a ha b hb => ?_⟩, fun a ha => ?_⟩
  · rw [List.mem_singleton.mp hb]
    exact (h.2 a ha).2
  · rcases List.mem_append.mp ha with ha | ha
    · have := h.2 a ha
      omega
    · rw [List.mem_singleton.mp ha]
      omega
theorem Cts.up {m : Nat} {as : List Int} (h : Cts (m : Int) as) : Cts ((m + 1 : Nat) : Int) as := ⟨h.1, fun a ha => by have := h.2 a ha; omega⟩
theorem Cts.len {m : Nat} {as : List Int} (h : Cts (m : Int) as) : as.length ≤ m := by
  have hn : as.Nodup := h.1.imp fun h e => by omega
  have : as.length ≤ (intsL 0 m).length := len_sub hn fun x hx => by
    have := h.2 x hx
    unfold intsL
    exact List.mem_map.mpr ⟨x.toNat, List.mem_range.mpr (by omega), by omega⟩
  unfold intsL at this
  rwa [List.length_map, List.length_range] at this
theorem Cts.nd {m : Int} {as : List Int} (h : Cts m as) : as.Nodup := h.1.imp fun h e => by omega
theorem some_run2 {n : Nat} {p : D} (hp : PenOk n p) (hn : n + 50 < 2 ^ 60) (T : Int) (hT : 0 < T ∧ T < 100) (m : Nat) (hm : m ≤ 20) (S1 S2 : Slot) : ∃ (as : List Int) (q : D), lcRun (gSet 4) (xTest (xOp2 dEq (xCallB fDraw 0 (xCons (xVar 3) xNil)) (xC (.int 0)))) (xVar 4) [4] (rangeD 0 m) [] [.own p, S1, S2, .val (.int T), .emp] = .ok (as.map D.int) [.own q, S1, S2, .val (.int T), .emp] ∧ Cts (m : Int) as ∧ PenOk (n + m) q := by
  obtain ⟨acc, ρ', run, q, as, rfl, rfl, hl, hq⟩ := lcRun_inv (g := gSet 4) (tt := (xTest (xOp2 dEq (xCallB fDraw 0 (xCons (xVar 3) xNil)) (xC (.int 0))))) (te := (xVar 4)) (vs := [4]) (fun i acc ρ => ∃ (q : D) (as : List Int), ρ = [.own q, S1, S2, .val (.int T), .emp] ∧ acc = as.map D.int ∧ Cts (i : Int) as ∧ PenOk (n + i) q)
    (rangeD 0 m) 0 [] [.own p, S1, S2, .val (.int T), .emp] ⟨p, [], rfl, rfl, ⟨List.Pairwise.nil, fun a h => absurd h List.not_mem_nil⟩, hp⟩ (fun i d acc ρ hd hρ => by
      obtain ⟨hi, rfl⟩ := rangeD_get hd
      obtain ⟨q, as, rfl, rfl, hl, hq⟩ := hρ
      rw [Nat.zero_add] at hl hq ⊢
      obtain ⟨y, q', e, _, _, hq'⟩ := draw_ex hq (by omega) (m := T) hT.1 (by omega)
      rw [Int.zero_add]
      have hsn := hl.snoc
      obtain ⟨I, hI⟩ : ∃ I : Int, (i : Int) = I := ⟨_, rfl⟩
      rw [hI] at hsn ⊢
      by_cases hy : y = 0
      · refine .inl ⟨.int I, [.own q', S1, S2, .val (.int T), .emp], ?_, q', as ++ [I], rfl, by rw [List.map_append]; rfl, hsn, hq'⟩
        simp! [e, hy]
      · refine .inr ⟨[.own q', S1, S2, .val (.int T), .emp], ?_, q', as, rfl, rfl, hl.up, hq'⟩
        simp! [e, hy])
  rw [rangeD_len, Nat.zero_add] at hq hl
  exact ⟨as, q, run, hl, hq⟩
theorem some_ex {n : Nat} {p : D} (hp : PenOk n p) (hn : n + 100 < 2 ^ 60) {k : Int} (hk : Kind k) : ∃ (as : List Int) (p' : D), f_law_some [p, .int k] = .ok (.tup (as.map D.int)) [p'] ∧ (as.Nodup ∧ ∀ a ∈ as, 0 ≤ a ∧ a ≤ k) ∧ PenOk (n + 20) p' := by
  unfold f_law_some b_law_some
  rw [draw_is]
  have hk9 : 4 ≤ k ∧ k + 1 ≤ 9 := by rcases hk with rfl | rfl | rfl <;> omega
  have hbk : inR (k + 1) = true := inR_of (by omega)
  have hz1 : (rangeD 0 (k + 1).toNat).length ≤ sizeLine := by rw [rangeD_len]; exact szn (by omega)
  have hs : k + 1 - 0 = k + 1 := by omega
  obtain ⟨v, p1, e1, a1, b1, h1⟩ := draw_ex hp (by omega) (m := 4) (by decide) (by decide)
  by_cases c0 : v = 0
  · refine ⟨[], p1, ?_, ⟨List.nodup_nil, fun a h => absurd h List.not_mem_nil⟩, h1.mono (by omega)⟩
    simp! [e1, c0]
    rfl
  · by_cases c1 : v = 1
    · obtain ⟨x, p2, e2, a2, b2, h2⟩ := draw_ex h1 (by omega) (m := k + 1) (by omega) (by omega)
      obtain ⟨y, p3, e3, a3, b3, h3⟩ := draw_ex h2 (by omega) (m := 3) (by decide) (by decide)
      obtain ⟨u, q, u1, u2⟩ : ∃ u : Int, atI [D.int k, .int 0, .int x] y = some (.int u) ∧ 0 ≤ u ∧ u ≤ k := by
        rcases (show y = 0 ∨ y = 1 ∨ y = 2 by omega) with rfl | rfl | rfl
        · exact ⟨k, rfl, by omega, by omega⟩
        · exact ⟨0, rfl, by omega, by omega⟩
        · exact ⟨x, rfl, by omega, by omega⟩
      refine ⟨[u], p3, ?_, ⟨List.pairwise_singleton _ _, fun a h => by rw [List.mem_singleton.mp h]; exact ⟨u1, u2⟩⟩, h3.mono (by omega)⟩
      simp! [e1, c0, c1, e2, zeE, e3, q]
      rfl
    · obtain ⟨as, q, r, hl, hq⟩ := some_run2 h1 (by omega) v (by omega) (k + 1).toNat (by omega) (.val (.int k)) (.val (.int v))
      have hz : (as.map D.int).length ≤ sizeLine := by rw [List.length_map]; exact szn (by have := hl.len; omega)
      refine ⟨as, q, ?_, ⟨hl.nd, fun a ha => by have := hl.2 a ha; omega⟩, hq.mono (by omega)⟩
      simp! [zaa] at r ⊢
      simp! [e1, c0, c1, hbk, hs, hz1, r, hz]
def RuOk (k : Int) (l : List Int) : Prop := l.Nodup ∧ ∀ a ∈ l, 0 ≤ a ∧ a ≤ k
theorem rule_ex {n : Nat} {p : D} (hp : PenOk n p) (hn : n + 200 < 2 ^ 60) : ∃ (k : Int) (bs ss : List Int) (p' : D), f_law_rule [p] = .ok (ruleD k bs ss) [p'] ∧ Kind k ∧ RuOk k bs ∧ RuOk k ss ∧ PenOk (n + 50) p' := by
  unfold f_law_rule b_law_rule
  rw [draw_is]
  obtain ⟨m, p1, e1, a1, b1, h1⟩ := draw_ex hp (by omega) (m := 3) (by decide) (by decide)
  obtain ⟨k, ek, hk⟩ : ∃ k : Int, atI [D.int 8, .int 6, .int 4] m = some (.int k) ∧ Kind k := by
    rcases (show m = 0 ∨ m = 1 ∨ m = 2 by omega) with rfl | rfl | rfl
    · exact ⟨8, rfl, by decide⟩
    · exact ⟨6, rfl, by decide⟩
    · exact ⟨4, rfl, by decide⟩
  obtain ⟨bs, p2, e2, hb, h2⟩ := some_ex h1 (by omega) hk
  obtain ⟨ss, p3, e3, hs, h3⟩ := some_ex h2 (by omega) hk
  refine ⟨k, bs, ss, p3, ?_, hk, hb, hs, h3.mono (by omega)⟩
  simp! [e1, zeE, ek, e2, e3, ruleD]

/-! _law_bent -/
section
variable {i : Nat}
theorem gE_ok {α β : Type} {r : Res α} {k : α → Rho → Res β} {a : α} {ρ1 : Rho} (h : r = .ok a ρ1) (he : isEmp i ρ1 = true) : gE i r k = k a ρ1 := by
  subst h
  exact if_pos he
theorem gYIf_ok {tc : List D → XT} {t1 t2 : List D → XS} {cs : List D} {ρ ρ1 : Rho} {b : Bool} (h : tc cs ρ = .ok b ρ1) (he : isEmp i ρ1 = true) : gYIf i tc t1 t2 cs ρ = if b = true then t1 cs ρ1 else t2 cs ρ1 := by
  unfold gYIf
  rw [h]
  exact if_pos he
theorem gvCall_ok {g : DF} {tv : List D → XV} {cs : List D} {ρ ρ1 : Rho} {x d0 v p' : D} (h : tv cs ρ = .ok x ρ1) (he : isEmp i ρ1 = true) (h0 : ownD 0 ρ1 = some d0) (hg : g [d0, x] = .ok v [p']) : gvCall g i tv cs ρ = .ok v (ρ1.set 0 (.own p')) := by
  unfold gvCall
  rw [gE_ok h he]
  simp only [h0, hg]
  rfl
end
abbrev bS (p LS : D) (M : Int) (s3 s5 s6 s7 : Slot) : Rho := [.own p, .val LS, .val (.int M), s3, .emp, s5, s6, s7]
def OkL (n m : Nat) (CC : List (List (Int × Int))) : Prop := CC.length ≤ n ∧ ∀ L ∈ CC, L.length ≤ m
theorem OkL.mono {n m n' m' : Nat} {CC : List (List (Int × Int))} (h : OkL n m CC) (h1 : n ≤ n') (h2 : m ≤ m') : OkL n' m' CC := ⟨Nat.le_trans h.1 h1, fun L hL => Nat.le_trans (h.2 L hL) h2⟩
theorem OkL.set {n m : Nat} {CC : List (List (Int × Int))} (h : OkL n m CC) (j : Nat) {L : List (Int × Int)} (hL : L.length ≤ m) : OkL n m (CC.set j L) := ⟨by rw [List.length_set]; exact h.1, fun K hK => by
  rcases List.mem_or_eq_of_mem_set hK with z | z
  · exact h.2 K z
  · rw [z]; exact hL⟩
theorem bmade (p LS : D) (M : Int) : ∀ (CC : List (List (Int × Int))) (acc : List D), lcRunW (gSet 4) (xOpL dList (xCons (xVar 4) xNil)) [4] (CC.map cells) acc (bS p LS M .emp .emp .emp .emp) = some (acc ++ CC.map cells, bS p LS M .emp .emp .emp .emp)
  | [], acc => by
    rw [List.map_nil, List.append_nil]
    unfold lcRunW
    exact if_pos (show own0 (bS p LS M .emp .emp .emp .emp) = true from rfl)
  | L :: r, acc => by
    have e : (xOpL dList (xCons (xVar 4) xNil)) [.own p, .val LS, .val (.int M), .emp, .val (cells L), .emp, .emp, .emp] = .ok (cells L) [.own p, .val LS, .val (.int M), .emp, .val (cells L), .emp, .emp, .emp] := rfl
    rw [List.map_cons]
    unfold lcRunW
    rw [if_pos (show own0 (bS p LS M .emp .emp .emp .emp) = true from rfl), show gSet 4 (cells L) (wipeR (bS p LS M .emp .emp .emp .emp) [4]) = some [.own p, .val LS, .val (.int M), .emp, .val (cells L), .emp, .emp, .emp] from rfl]
    simp only
    rw [if_pos (show own0 [.own p, .val LS, .val (.int M), .emp, .val (cells L), .emp, .emp, .emp] = true from rfl), e]
    simp only
    have := bmade p LS M r (acc ++ [cells L])
    rw [List.append_assoc] at this
    exact this
theorem gAt_nat (CC : List (List (Int × Int))) {j : Nat} (h : j < CC.length) : gAt (CC.map cells) (.int (j : Int)) = some (j, cells (CC.getD j [])) := by
  have e : CC.getD j [] = CC[j] := by simp [List.getD, List.getElem?_eq_getElem h]
  unfold gAt
  simp only
  rw [List.length_map, ixN_nat h]
  simp only [Option.bind_some, List.getElem?_map, List.getElem?_eq_getElem h, Option.map_some, e]
theorem getD_ok {n m : Nat} {CC : List (List (Int × Int))} (h : OkL n m CC) (j : Nat) : (CC.getD j []).length ≤ m := by
  by_cases hj : j < CC.length
  · rw [show CC.getD j [] = CC[j] by simp [List.getD, List.getElem?_eq_getElem hj]]
    exact h.2 _ (List.getElem_mem hj)
  · rw [show CC.getD j [] = [] by simp [List.getD, List.getElem?_eq_none (show CC.length ≤ j by omega)]]
    exact Nat.zero_le _
theorem way_is (p LS : D) (M w c : Int) (s5 s7 : Slot) : xTest (xOp2 dEq (xVar 6) (xC (.int c))) (bS p LS M .emp s5 (.val (.int w)) s7) = .ok (decide (w = c)) (bS p LS M .emp s5 (.val (.int w)) s7) := by
  simp! [zaa]
theorem lenAt_is (CC : List (List (Int × Int))) {j : Nat} (h : j < CC.length) (p LS : D) (M : Int) (s6 s7 : Slot) : gvLenAt 3 (xVar 5) (CC.map cells) (bS p LS M .emp (.val (.int (j : Int))) s6 s7) = .ok (.int (((CC.getD j []).length : Nat) : Int)) (bS p LS M .emp (.val (.int (j : Int))) s6 s7) := by
  unfold gvLenAt
  rw [gE_ok (i := 3) (show xVar 5 (bS p LS M .emp (.val (.int (j : Int))) s6 s7) = .ok (.int (j : Int)) (bS p LS M .emp (.val (.int (j : Int))) s6 s7) from rfl) rfl, gAt_nat CC h]
  simp only [List.length_map]
theorem ne_is (CC : List (List (Int × Int))) {j : Nat} (h : j < CC.length) (p LS : D) (M : Int) (s6 s7 : Slot) : gcNe 3 (xVar 5) (CC.map cells) (bS p LS M .emp (.val (.int (j : Int))) s6 s7) = .ok (!decide (CC.getD j [] = [])) (bS p LS M .emp (.val (.int (j : Int))) s6 s7) := by
  unfold gcNe
  rw [gE_ok (i := 3) (show xVar 5 (bS p LS M .emp (.val (.int (j : Int))) s6 s7) = .ok (.int (j : Int)) (bS p LS M .emp (.val (.int (j : Int))) s6 s7) from rfl) rfl, gAt_nat CC h]
  simp only [zel, cells_nil, Option.map_some]
theorem cells_set (CC : List (List (Int × Int))) (j : Nat) (L : List (Int × Int)) : (CC.map cells).set j (cells L) = (CC.set j L).map cells := by rw [List.map_set]

theorem bent_draw {n : Nat} {p : D} (hp : PenOk n p) (hn : n < 2 ^ 60) {m : Int} (hm : 0 < m) (hm2 : m < 2 ^ 200) : ∃ (r : Nat) (p' : D), fDraw [p, .int m] = .ok (.int (r : Int)) [p'] ∧ (r : Int) < m ∧ PenOk (n + 1) p' := by
  obtain ⟨r, p', e, h1, h2, h3⟩ := draw_ex hp hn hm hm2
  obtain ⟨k, rfl⟩ := Int.eq_ofNat_of_zero_le h1
  exact ⟨k, p', e, h2, h3⟩
/-- a tuple that is put in -/
theorem odd_ex {n : Nat} {p : D} (hp : PenOk n p) (hn : n < 2 ^ 60) (LS : D) (M : Int) (s5 s6 s7 : Slot) : ∃ (o : Int × Int) (p' : D), (xOp2 dIx (xOpL dLst (xCons (xOpL dTup (xCons (xVar 2) (xCons (xC (.int 0)) xNil))) (xCons (xOpL dTup (xCons (xC (.int 0)) (xCons (xOp1 dNeg (xC (.int 1))) xNil))) (xCons (xOpL dTup (xCons (xOp1 dNeg (xC (.int 1))) (xCons (xVar 2) xNil))) (xCons (xOpL dTup (xCons (xOp2 dPow (xC (.int 10)) (xC (.int 59))) (xCons (xOp2 dPow (xC (.int 10)) (xC (.int 59))) xNil))) (xCons (xOpL dTup (xCons (xVar 2) (xCons (xVar 2) xNil))) xNil)))))) (xCallB f_law_draw 0 (xCons (xC (.int 5)) xNil))) (bS p LS M .emp s5 s6 s7) = .ok (cellP o) (bS p' LS M .emp s5 s6 s7) ∧ PenOk (n + 1) p' := by
  obtain ⟨r, p', e, h2, h3⟩ := bent_draw hp hn (m := 5) (by decide) (by decide)
  rw [draw_is]
  have dp : dPow (.int 10) (.int 59) = some (.int (10 ^ 59)) := by kernel_rfl
  have h5 : ∀ a b c d e : D, dLst [a, b, c, d, e] = some (.lst [a, b, c, d, e]) := fun a b c d e => dLst_ap (szn (show 5 ≤ 1000 by decide))
  obtain ⟨P, hP⟩ : ∃ P : Int, P = 10 ^ 59 := ⟨_, rfl⟩
  rw [← hP] at dp
  have at5 : ∃ o : Int × Int, atI [D.tup [.int M, .int 0], .tup [.int 0, .int (-1)], .tup [.int (-1), .int M], .tup [.int P, .int P], .tup [.int M, .int M]] (r : Int) = some (cellP o) := by
    rcases (show r = 0 ∨ r = 1 ∨ r = 2 ∨ r = 3 ∨ r = 4 by omega) with rfl | rfl | rfl | rfl | rfl
    · exact ⟨(M, 0), rfl⟩
    · exact ⟨(0, -1), rfl⟩
    · exact ⟨(-1, M), rfl⟩
    · exact ⟨(P, P), rfl⟩
    · exact ⟨(M, M), rfl⟩
  obtain ⟨o, ho⟩ := at5
  refine ⟨o, p', ?_, h3⟩
  generalize (r : Int) = R at *
  generalize cellP o = O at *
  simp! [dp, h5, e, ho]
/-- the changes -/
theorem change_ex {n : Nat} {p : D} (hp : PenOk n p) (hn : n + 10 < 2 ^ 60) {CC : List (List (Int × Int))} (hC : OkL 20 1500 CC) {j : Nat} (hj : j < CC.length) (LS : D) {M : Int} (hM : 0 < M ∧ M < 100) (w : Int) (s7 : Slot) : ∃ (CC' : List (List (Int × Int))) (p' : D) (s7' : Slot), b_law_bent_1 (CC.map cells) (bS p LS M .emp (.val (.int (j : Int))) (.val (.int w)) s7) = .nx (bS p' LS M (.own (.lst (CC'.map cells))) (.val (.int (j : Int))) (.val (.int w)) s7') ∧ OkL 21 1501 CC' ∧ PenOk (n + 10) p' := by
  have stay : ∃ (CC' : List (List (Int × Int))) (p' : D) (s7' : Slot), gEnd 3 false xNext (CC.map cells) (bS p LS M .emp (.val (.int (j : Int))) (.val (.int w)) s7) = .nx (bS p' LS M (.own (.lst (CC'.map cells))) (.val (.int (j : Int))) (.val (.int w)) s7') ∧ OkL 21 1501 CC' ∧ PenOk (n + 10) p' := ⟨CC, p, s7, rfl, hC.mono (by decide) (by decide), hp.mono (by omega)⟩
  have lj := getD_ok hC j
  have vj : xVar 5 (bS p LS M .emp (.val (.int (j : Int))) (.val (.int w)) s7) = .ok (.int (j : Int)) (bS p LS M .emp (.val (.int (j : Int))) (.val (.int w)) s7) := rfl
  have rest : w ≠ 2 → w ≠ 3 → w ≠ 4 → w ≠ 5 → w ≠ 6 → True := fun _ _ _ _ _ => trivial
  unfold b_law_bent_1
  have c1 : gcAnd 3 (gvOld (xTest (xOp2 dEq (xVar 6) (xC (.int 1))))) (gcNe 3 (xVar 5)) (CC.map cells) (bS p LS M .emp (.val (.int (j : Int))) (.val (.int w)) s7) = .ok (decide (w = 1) && !decide (CC.getD j [] = [])) (bS p LS M .emp (.val (.int (j : Int))) (.val (.int w)) s7) := by
    unfold gcAnd gvOld
    rw [gE_ok (i := 3) (way_is p LS M w 1 _ s7) rfl]
    by_cases hw : w = 1
    · rw [decide_eq_true hw, if_pos rfl, ne_is CC hj, Bool.true_and]
    · rw [decide_eq_false hw, if_neg Bool.false_ne_true, Bool.false_and]
  rw [gYIf_ok (i := 3) c1 rfl]
  by_cases hb : (decide (w = 1) && !decide (CC.getD j [] = [])) = true
  · rw [if_pos hb]
    have hne : CC.getD j [] ≠ [] := by
      intro z
      rw [z] at hb
      simp at hb
    have hpos : 0 < (CC.getD j []).length := List.length_pos_iff.mpr hne
    obtain ⟨r, p', e, h2, h3⟩ := bent_draw hp (by omega) (m := (((CC.getD j []).length : Nat) : Int)) (by omega) (by omega)
    have hr : r < (CC.getD j []).length := by omega
    refine ⟨CC.set j ((CC.getD j []).take r ++ (CC.getD j []).drop (r + 1)), p', s7, ?_, (hC.set j ?_).mono (by decide) (by decide), h3.mono (by omega)⟩
    · have cv : gvCall f_law_draw 3 (gvLenAt 3 (xVar 5)) (CC.map cells) (bS p LS M .emp (.val (.int (j : Int))) (.val (.int w)) s7) = .ok (.int (r : Int)) (bS p' LS M .emp (.val (.int (j : Int))) (.val (.int w)) s7) := by
        rw [draw_is]
        exact gvCall_ok (i := 3) (lenAt_is CC hj p LS M _ s7) rfl rfl e
      have st : gWPop 3 (xVar 5) (gvCall f_law_draw 3 (gvLenAt 3 (xVar 5))) (CC.map cells) (bS p LS M .emp (.val (.int (j : Int))) (.val (.int w)) s7) = some ((CC.set j ((CC.getD j []).take r ++ (CC.getD j []).drop (r + 1))).map cells, bS p' LS M .emp (.val (.int (j : Int))) (.val (.int w)) s7) := by
        refine gk_ok vj rfl (gk_ok cv rfl ?_)
        rw [gAt_nat CC hj]
        simp only [Option.bind_some]
        rw [if_pos (inR_of (by omega)), List.length_map, ixN_nat hr]
        simp only [Option.bind_some, List.getElem?_map, List.getElem?_eq_getElem hr, Option.map_some]
        rw [← cells_set, List.eraseIdx_eq_take_drop_succ, ← List.map_take, ← List.map_drop, ← List.map_append]
      rw [gThen_ok st]
      rfl
    · rw [List.length_append, List.length_take, List.length_drop]
      omega
  · rw [if_neg hb]
    rw [gYIf_ok (i := 3) (tc := gvOld (xTest (xOp2 dEq (xVar 6) (xC (.int 2))))) (way_is p LS M w 2 _ s7) rfl]
    by_cases w2 : w = 2
    · rw [if_pos (decide_eq_true w2)]
      obtain ⟨r, p1, e1, a1, h1⟩ := bent_draw hp (by omega) (m := (((CC.getD j []).length : Nat) : Int) + 1) (by omega) (by omega)
      obtain ⟨x, p2, e2, a2, h2⟩ := bent_draw h1 (by omega) (m := M) (by omega) (by omega)
      obtain ⟨y, p3, e3, a3, h3⟩ := bent_draw h2 (by omega) (m := M) (by omega) (by omega)
      refine ⟨CC.set j ((CC.getD j []).take r ++ [((x : Int), (y : Int))] ++ (CC.getD j []).drop r), p3, s7, ?_, ((hC.mono (by decide) (show 1500 ≤ 1501 by decide)).set j ?_).mono (show 20 ≤ 21 by decide) (by decide), h3.mono (by omega)⟩
      · have cv : gvCall f_law_draw 3 (gvOp 3 dAdd (gvLenAt 3 (xVar 5)) (xC (.int 1))) (CC.map cells) (bS p LS M .emp (.val (.int (j : Int))) (.val (.int w)) s7) = .ok (.int (r : Int)) (bS p1 LS M .emp (.val (.int (j : Int))) (.val (.int w)) s7) := by
          rw [draw_is]
          refine gvCall_ok (i := 3) (ρ1 := bS p LS M .emp (.val (.int (j : Int))) (.val (.int w)) s7) (x := .int ((((CC.getD j []).length : Nat) : Int) + 1)) ?_ rfl rfl e1
          unfold gvOp
          rw [gE_ok (i := 3) (lenAt_is CC hj p LS M _ s7) rfl]
          rfl
        have ev : (xOpL dTup (xCons (xCallB f_law_draw 0 (xCons (xVar 2) xNil)) (xCons (xCallB f_law_draw 0 (xCons (xVar 2) xNil)) xNil))) (bS p1 LS M .emp (.val (.int (j : Int))) (.val (.int w)) s7) = .ok (cellP ((x : Int), (y : Int))) (bS p3 LS M .emp (.val (.int (j : Int))) (.val (.int w)) s7) := by
          rw [draw_is]
          show _ = Res.ok (D.tup [.int (x : Int), .int (y : Int)]) _
          generalize (x : Int) = XI at *
          generalize (y : Int) = YI at *
          generalize (j : Int) = JI at *
          simp! [e2, e3]
        have st : gWIns 3 (xVar 5) (gvCall f_law_draw 3 (gvOp 3 dAdd (gvLenAt 3 (xVar 5)) (xC (.int 1)))) (xOpL dTup (xCons (xCallB f_law_draw 0 (xCons (xVar 2) xNil)) (xCons (xCallB f_law_draw 0 (xCons (xVar 2) xNil)) xNil))) (CC.map cells) (bS p LS M .emp (.val (.int (j : Int))) (.val (.int w)) s7) = some ((CC.set j ((CC.getD j []).take r ++ [((x : Int), (y : Int))] ++ (CC.getD j []).drop r)).map cells, bS p3 LS M .emp (.val (.int (j : Int))) (.val (.int w)) s7) := by
          refine gk_ok vj rfl (gk_ok cv rfl (gk_ok ev rfl ?_))
          rw [gAt_nat CC hj]
          simp only [Option.bind_some]
          have sz : ((CC.getD j []).map cellP).length < sizeLine := by rw [List.length_map, sizeLine_eq]; omega
          rw [if_pos ⟨⟨by omega, inR_of (by omega)⟩, sz⟩, Int.toNat_natCast]
          rw [← cells_set, ← List.map_take, ← List.map_drop]
          show some ((CC.map cells).set j (.lst (((CC.getD j []).take r).map cellP ++ [((x : Int), (y : Int))].map cellP ++ ((CC.getD j []).drop r).map cellP)), _) = _
          rw [← List.map_append, ← List.map_append]
        rw [gThen_ok st]
        rfl
      · rw [List.length_append, List.length_append, List.length_take, List.length_drop, List.length_singleton]
        omega
    · rw [if_neg (by rw [decide_eq_false w2]; exact Bool.false_ne_true)]
      rw [gYIf_ok (i := 3) (tc := gvOld (xTest (xOp2 dEq (xVar 6) (xC (.int 3))))) (way_is p LS M w 3 _ s7) rfl]
      by_cases w3 : w = 3
      · rw [if_pos (decide_eq_true w3)]
        obtain ⟨o, p', e, h3⟩ := odd_ex hp (by omega) LS M (.val (.int (j : Int))) (.val (.int w)) s7
        refine ⟨CC.set j (CC.getD j [] ++ [o]), p', .val (cellP o), ?_, ((hC.mono (by decide) (show 1500 ≤ 1501 by decide)).set j ?_).mono (show 20 ≤ 21 by decide) (by decide), h3.mono (by omega)⟩
        · rw [gThen_ok (t1 := gWSet 3 7 _) (gk_ok (i := 3) e rfl rfl)]
          have st : gApp 3 (xVar 5) (xVar 7) (CC.map cells) (bS p' LS M .emp (.val (.int (j : Int))) (.val (.int w)) (.val (cellP o))) = some ((CC.set j (CC.getD j [] ++ [o])).map cells, bS p' LS M .emp (.val (.int (j : Int))) (.val (.int w)) (.val (cellP o))) := by
            refine gk_ok (show xVar 5 (bS p' LS M .emp (.val (.int (j : Int))) (.val (.int w)) (.val (cellP o))) = .ok (.int (j : Int)) (bS p' LS M .emp (.val (.int (j : Int))) (.val (.int w)) (.val (cellP o))) from rfl) rfl (gk_ok (show xVar 7 (bS p' LS M .emp (.val (.int (j : Int))) (.val (.int w)) (.val (cellP o))) = .ok (cellP o) (bS p' LS M .emp (.val (.int (j : Int))) (.val (.int w)) (.val (cellP o))) from rfl) rfl ?_)
            rw [gAt_nat CC hj]
            simp only [Option.bind_some]
            have sz : ((CC.getD j []).map cellP).length < sizeLine := by rw [List.length_map, sizeLine_eq]; omega
            rw [if_pos sz, ← cells_set]
            show some ((CC.map cells).set j (.lst ((CC.getD j []).map cellP ++ [o].map cellP)), _) = _
            rw [← List.map_append]
          show gThen (gApp 3 (xVar 5) (xVar 7)) (gEnd 3 false xNext) (CC.map cells) (bS p' LS M .emp (.val (.int (j : Int))) (.val (.int w)) (.val (cellP o))) = _
          rw [gThen_ok st]
          rfl
        · rw [List.length_append, List.length_singleton]
          omega
      · rw [if_neg (by rw [decide_eq_false w3]; exact Bool.false_ne_true)]
        rw [gYIf_ok (i := 3) (tc := gvOld (xTest (xOp2 dEq (xVar 6) (xC (.int 4))))) (way_is p LS M w 4 _ s7) rfl]
        by_cases w4 : w = 4
        · rw [if_pos (decide_eq_true w4)]
          refine ⟨CC.eraseIdx j, p, s7, ?_, ⟨?_, fun L hL => Nat.le_trans (hC.2 L (List.mem_of_mem_eraseIdx hL)) (by decide)⟩, hp.mono (by omega)⟩
          · have er : (CC.eraseIdx j).map cells = (CC.map cells).eraseIdx j := by
              rw [List.eraseIdx_eq_take_drop_succ, List.eraseIdx_eq_take_drop_succ, List.map_append, List.map_take, List.map_drop]
            rw [er]
            have hl2 : j < (CC.map cells).length := by rw [List.length_map]; exact hj
            generalize CC.map cells = DD at *
            have q1 := ixN_nat hl2
            have q2 : DD[j]? = some DD[j] := List.getElem?_eq_getElem hl2
            have q3 : inR (j : Int) = true := inR_of (by have := hC.1; omega)
            unfold gEnd clsR clsS
            rw [if_neg Bool.false_ne_true]
            show xDrop (xLPop 3 (xVar 5)) [.own p, .val LS, .val (.int M), .own (.lst DD), .emp, .val (.int (j : Int)), .val (.int w), s7] = _
            generalize (j : Int) = JI at *
            simp! [q1, q2, q3, lpop1, lpopS, lpopK, lpopN, lpopO]
          · have := List.length_eraseIdx_le CC j
            have := hC.1
            omega
        · rw [if_neg (by rw [decide_eq_false w4]; exact Bool.false_ne_true)]
          rw [gYIf_ok (i := 3) (tc := gvOld (xTest (xOp2 dEq (xVar 6) (xC (.int 5))))) (way_is p LS M w 5 _ s7) rfl]
          by_cases w5 : w = 5
          · rw [if_pos (decide_eq_true w5)]
            refine ⟨CC.take j ++ [[]] ++ CC.drop j, p, s7, ?_, ⟨?_, fun L hL => ?_⟩, hp.mono (by omega)⟩
            · have er : (CC.take j ++ [[]] ++ CC.drop j).map cells = (CC.map cells).take j ++ [.lst []] ++ (CC.map cells).drop j := by
                rw [List.map_append, List.map_append, List.map_take, List.map_drop]
                rfl
              rw [er]
              have hl2 : (CC.map cells).length < sizeLine := by rw [List.length_map, sizeLine_eq]; have := hC.1; omega
              have q3 : inR (j : Int) = true := inR_of (by have := hC.1; omega)
              generalize CC.map cells = DD at *
              unfold gEnd clsR clsS
              rw [if_neg Bool.false_ne_true]
              show xLIns 3 (xVar 5) (xOpL dLst xNil) [.own p, .val LS, .val (.int M), .own (.lst DD), .emp, .val (.int (j : Int)), .val (.int w), s7] = _
              show lIns 3 (.int (j : Int)) (.lst []) DD [.own p, .val LS, .val (.int M), .own (.lst DD), .emp, .val (.int (j : Int)), .val (.int w), s7] = _
              unfold lIns
              simp only
              rw [if_pos ⟨⟨by omega, q3⟩, hl2⟩, Int.toNat_natCast]
              rfl
            · have := hC.1
              rw [List.length_append, List.length_append, List.length_take, List.length_drop, List.length_singleton]
              omega
            · rcases List.mem_append.mp hL with z | z
              · rcases List.mem_append.mp z with z | z
                · exact Nat.le_trans (hC.2 L (List.mem_of_mem_take z)) (by decide)
                · rw [List.mem_singleton.mp z]
                  exact Nat.zero_le _
              · exact Nat.le_trans (hC.2 L (List.mem_of_mem_drop z)) (by decide)
          · rw [if_neg (by rw [decide_eq_false w5]; exact Bool.false_ne_true)]
            rw [gYIf_ok (i := 3) (tc := gvOld (xTest (xOp2 dEq (xVar 6) (xC (.int 6))))) (way_is p LS M w 6 _ s7) rfl]
            by_cases w6 : w = 6
            · rw [if_pos (decide_eq_true w6)]
              refine ⟨CC.map fun _ => [], p, s7, ?_, ⟨by rw [List.length_map]; exact Nat.le_trans hC.1 (by decide), fun L hL => ?_⟩, hp.mono (by omega)⟩
              · have run := lcMap (g := gSet 4) (tt := xYes) (te := xOpL dLst xNil) (vs := [4]) (ρ := [.own p, .val LS, .val (.int M), .rd (.lst (CC.map cells)), .emp, .val (.int (j : Int)), .val (.int w), s7]) (e1 := cells) (fun L : List (Int × Int) => cells L) (fun _ => []) (l := CC) (fun L _ => by
                  show _ = Res.ok (some (D.lst [])) _
                  generalize (j : Int) = JI at *
                  simp! [zaa])
                have hz : (CC.map cells).length ≤ sizeLine := by rw [List.length_map]; exact szH (by have := hC.1; omega)
                have hz2 : ((CC.map fun _ => ([] : List (Int × Int))).map cells).length ≤ sizeLine := by rw [List.length_map, List.length_map]; exact szH (by have := hC.1; omega)
                generalize (CC.map fun _ => ([] : List (Int × Int))).map cells = D2 at *
                generalize CC.map cells = DD at *
                unfold gEnd clsR clsS
                rw [if_neg Bool.false_ne_true]
                show lockS 3 (xSetO 3 (xLC (xItO 3) (gSet 4) xYes (xOpL dLst xNil) [4])) [.own p, .val LS, .val (.int M), .own (.lst DD), .emp, .val (.int (j : Int)), .val (.int w), s7] = _
                generalize (j : Int) = JI at *
                simp! [run, hz, hz2, dItems]
              · obtain ⟨_, _, rfl⟩ := List.mem_map.mp hL
                exact Nat.zero_le _
            · rw [if_neg (by rw [decide_eq_false w6]; exact Bool.false_ne_true)]
              exact stay

theorem tail_ex {n : Nat} {p : D} (hp : PenOk n p) (hn : n + 10 < 2 ^ 60) {CC : List (List (Int × Int))} (hC : OkL 21 1501 CC) (LS : D) (M : Int) (s5 s6 s7 : Slot) : ∃ (CC' : List (List (Int × Int))) (p' : D), (xSeq (xIfS (xTest (xOp2 dEq (xCallB f_law_draw 0 (xCons (xC (.int 3)) xNil)) (xC (.int 0))))
    (lockS 3 (xSetO 3 (xLC (xItO 3) (gSet 4) xYes (xOp1 dRevL (xVar 4)) [4])))
    xNext)
    (xRet (xTake 3))) (bS p LS M (.own (.lst (CC.map cells))) s5 s6 s7) = .ret (.lst (CC'.map cells)) (bS p' LS M .emp s5 s6 s7) ∧ OkL 21 1501 CC' ∧ PenOk (n + 1) p' := by
  obtain ⟨r, p', e, a, h⟩ := bent_draw hp (by omega) (m := 3) (by decide) (by decide)
  rw [draw_is]
  by_cases hr : (r : Int) = 0
  · refine ⟨CC.map List.reverse, p', ?_, ⟨by rw [List.length_map]; exact hC.1, fun L hL => ?_⟩, h⟩
    · rw [hr] at e
      have run := lcMap (g := gSet 4) (tt := xYes) (te := xOp1 dRevL (xVar 4)) (vs := [4]) (ρ := [.own p', .val LS, .val (.int M), .rd (.lst (CC.map cells)), .emp, s5, s6, s7]) (e1 := cells) (fun L : List (Int × Int) => cells L) List.reverse (l := CC) (fun L _ => by
        rw [show cells (List.reverse L) = D.lst ((L.map cellP).reverse) by rw [← List.map_reverse]]
        show lcStep _ _ _ _ (D.lst (L.map cellP)) _ = _
        generalize L.map cellP = LM at *
        generalize CC.map cells = DD at *
        simp! [zaa])
      have hz : (CC.map cells).length ≤ sizeLine := by rw [List.length_map]; exact szH (by have := hC.1; omega)
      have hz2 : ((CC.map List.reverse).map cells).length ≤ sizeLine := by rw [List.length_map, List.length_map]; exact szH (by have := hC.1; omega)
      generalize (CC.map List.reverse).map cells = D2 at *
      generalize CC.map cells = DD at *
      simp! [e, run, hz, hz2, dItems]
    · obtain ⟨K, hK, rfl⟩ := List.mem_map.mp hL
      rw [List.length_reverse]
      exact hC.2 K hK
  · refine ⟨CC, p', ?_, hC, h⟩
    generalize (r : Int) = R at *
    generalize CC.map cells = DD at *
    simp! [e, hr]
theorem put_ex {CC : List (List (Int × Int))} (hC : OkL 20 1500 CC) (h0 : 0 < CC.length) (p LS : D) (M : Int) : gWPut 3 (xOp1 dNeg (xC (.int 1))) (CC.map cells) (bS p LS M .emp .emp .emp .emp) = some ((CC.set (CC.length - 1) []).map cells, bS p LS M .emp .emp .emp .emp) := by
  refine gk_ok (i := 3) (show (xOp1 dNeg (xC (.int 1))) (bS p LS M .emp .emp .emp .emp) = .ok (.int (-1)) (bS p LS M .emp .emp .emp .emp) from rfl) rfl ?_
  have hx : ixN (CC.map cells).length (-1) = some (CC.length - 1) := by
    rw [List.length_map]
    unfold ixN
    rw [if_neg (by decide), if_pos (by omega)]
    congr 1
    omega
  simp only
  rw [hx, Option.map_some, ← cells_set]
  rfl
theorem bent_body {n : Nat} {p : D} (hp : PenOk n p) (hn : n + 50 < 2 ^ 60) {CC : List (List (Int × Int))} (hC : OkL 20 1500 CC) (h0 : 0 < CC.length) {M : Int} (hM : 0 < M ∧ M < 100) : ∃ (CC' : List (List (Int × Int))) (p' : D) (ρ' : Rho), b_law_bent (bS p (.lst (CC.map cells)) M .emp .emp .emp .emp) = .ret (.lst (CC'.map cells)) (.own p' :: ρ') ∧ OkL 21 1501 CC' ∧ PenOk (n + 20) p' := by
  have hz : (CC.map cells).length ≤ sizeLine := by rw [List.length_map]; exact szH (by have := hC.1; omega)
  obtain ⟨LS, hLS⟩ : ∃ LS : D, D.lst (CC.map cells) = LS := ⟨_, rfl⟩
  have it : xIt (xVar 1) (bS p (.lst (CC.map cells)) M .emp .emp .emp .emp) = .ok (CC.map cells) (bS p (.lst (CC.map cells)) M .emp .emp .emp .emp) := rfl
  have start : b_law_bent (bS p (.lst (CC.map cells)) M .emp .emp .emp .emp) = b_law_bent_2 (CC.map cells) (bS p (.lst (CC.map cells)) M .emp .emp .emp .emp) := by
    unfold b_law_bent xRegW
    rw [if_pos (show own0 (bS p (.lst (CC.map cells)) M .emp .emp .emp .emp) = true from rfl), it]
    simp only
    rw [if_pos ⟨hz, (show noOwn (bS p (.lst (CC.map cells)) M .emp .emp .emp .emp) [4] = true from rfl)⟩, bmade, List.nil_append]
    simp only
    rw [if_pos (show 3 < (bS p (.lst (CC.map cells)) M .emp .emp .emp .emp).length from (by decide : 3 < 8))]
    rfl
  rw [start, hLS]
  clear start it
  unfold b_law_bent_2
  obtain ⟨r, p1, e1, a1, h1⟩ := bent_draw hp (by omega) (m := 2) (by decide) (by decide)
  have first : ∃ CC1 : List (List (Int × Int)), gWIf 3 (gvOld (xTest (xOp2 dEq (xCallB f_law_draw 0 (xCons (xC (.int 2)) xNil)) (xC (.int 0))))) (gSeq (gWPut 3 (xOp1 dNeg (xC (.int 1)))) gNil) gNil (CC.map cells) (bS p LS M .emp .emp .emp .emp) = some (CC1.map cells, bS p1 LS M .emp .emp .emp .emp) ∧ OkL 20 1500 CC1 ∧ CC1.length = CC.length := by
    have ev : xTest (xOp2 dEq (xCallB f_law_draw 0 (xCons (xC (.int 2)) xNil)) (xC (.int 0))) (bS p LS M .emp .emp .emp .emp) = .ok (decide ((r : Int) = 0)) (bS p1 LS M .emp .emp .emp .emp) := by
      rw [draw_is]
      generalize (r : Int) = R at *
      simp! [e1]
    by_cases hr : (r : Int) = 0
    · rw [decide_eq_true hr] at ev
      refine ⟨CC.set (CC.length - 1) [], gk_ok (i := 3) ev rfl ?_, hC.set _ (Nat.zero_le _), by rw [List.length_set]⟩
      rw [if_pos rfl]
      exact gSeq_ok (put_ex hC h0 p1 LS M) rfl
    · rw [decide_eq_false hr] at ev
      exact ⟨CC, gk_ok (i := 3) ev rfl (by rw [if_neg Bool.false_ne_true]; rfl), hC, rfl⟩
  obtain ⟨CC1, f1, hC1, l1⟩ := first
  rw [gThen_ok f1]
  obtain ⟨j, p2, e2, a2, h2⟩ := bent_draw h1 (by omega) (m := ((CC1.length : Nat) : Int)) (by omega) (by have := hC1.1; omega)
  have hj : j < CC1.length := by omega
  have cv : gvCall f_law_draw 3 gvLen (CC1.map cells) (bS p1 LS M .emp .emp .emp .emp) = .ok (.int (j : Int)) (bS p2 LS M .emp .emp .emp .emp) := by
    rw [draw_is]
    refine gvCall_ok (i := 3) (ρ1 := bS p1 LS M .emp .emp .emp .emp) (x := .int ((CC1.length : Nat) : Int)) ?_ rfl rfl e2
    unfold gvLen
    rw [List.length_map]
  rw [gThen_ok (t1 := gWSet 3 5 _) (gk_ok (i := 3) cv rfl rfl)]
  obtain ⟨w, p3, e3, a3, h3⟩ := bent_draw h2 (by omega) (m := 8) (by decide) (by decide)
  have ev3 : gvOld (xCallB f_law_draw 0 (xCons (xC (.int 8)) xNil)) (CC1.map cells) (bS p2 LS M .emp (.val (.int (j : Int))) .emp .emp) = .ok (.int (w : Int)) (bS p3 LS M .emp (.val (.int (j : Int))) .emp .emp) := by
    rw [draw_is]
    unfold gvOld
    generalize (w : Int) = W at *
    generalize (j : Int) = J at *
    simp! [e3]
  show ∃ (CC' : List (List (Int × Int))) (p' : D) (ρ' : Rho), gThen (gWSet 3 6 _) _ (CC1.map cells) (bS p2 LS M .emp (.val (.int (j : Int))) .emp .emp) = _ ∧ _
  rw [gThen_ok (t1 := gWSet 3 6 _) (gk_ok (i := 3) ev3 rfl rfl)]
  obtain ⟨CC2, p4, s7, e4, hC2, h4⟩ := change_ex h3 (by omega) hC1 hj LS hM (w : Int) .emp
  obtain ⟨CC3, p5, e5, hC3, h5⟩ := tail_ex h4 (by omega) hC2 LS M (.val (.int (j : Int))) (.val (.int (w : Int))) s7
  refine ⟨CC3, p5, [.val LS, .val (.int M), .emp, .emp, .val (.int (j : Int)), .val (.int (w : Int)), s7], ?_, hC3, h5.mono (by omega)⟩
  show gYSeq b_law_bent_1 _ (CC1.map cells) (bS p3 LS M .emp (.val (.int (j : Int))) (.val (.int (w : Int))) .emp) = _
  unfold gYSeq
  rw [e4]
  exact e5
theorem bent_ex {n : Nat} {p : D} (hp : PenOk n p) (hn : n + 50 < 2 ^ 60) {CC : List (List (Int × Int))} (hC : OkL 20 1500 CC) (h0 : 0 < CC.length) {M : Int} (hM : 0 < M ∧ M < 100) : ∃ (CC' : List (List (Int × Int))) (p' : D), f_law_bent [p, .lst (CC.map cells), .int M] = .ok (.lst (CC'.map cells)) [p'] ∧ OkL 21 1501 CC' ∧ PenOk (n + 20) p' := by
  obtain ⟨CC', p', ρ', e, h1, h2⟩ := bent_body hp hn hC h0 hM
  refine ⟨CC', p', ?_, h1, h2⟩
  unfold f_law_bent
  generalize CC'.map cells = D2 at *
  generalize CC.map cells = DD at *
  simp! [e]

abbrev lS9 (RD SZ LV TBS : D) (s4 : Slot) (s5 s6 s7 : Slot) : Rho := [.val RD, .val SZ, .val LV, .val TBS, s4, s5, s6, s7, .emp]
theorem least_tabs {k : Int} (hk : Kind k) (bs ss : List Int) {w : Nat} (hw : w = 1 ∨ w = 2 ∨ w = 3) (h : Int) (LV : D) : lcRun (gSet 4) xYes (xCall f_law_table (xCons (xVar 0) (xCons (xOp2 dIx (xVar 1) (xC (.int 0))) (xCons (xVar 4) xNil)))) [4] (rangeD (-1) 3) [] [.val (ruleD k bs ss), .val (.tup [.int (w : Int), .int h]), .val LV, .emp, .emp, .emp, .emp, .emp, .emp] = .ok [tabD k (-1) w, tabD k 0 w, tabD k 1 w] [.val (ruleD k bs ss), .val (.tup [.int (w : Int), .int h]), .val LV, .emp, .emp, .emp, .emp, .emp, .emp] := by
  have hr : rangeD (-1) 3 = ([-1, 0, 1] : List Int).map D.int := rfl
  rw [hr]
  have hq := lcMap (g := gSet 4) (tt := xYes) (te := xCall f_law_table (xCons (xVar 0) (xCons (xOp2 dIx (xVar 1) (xC (.int 0))) (xCons (xVar 4) xNil)))) (vs := [4]) (ρ := [.val (ruleD k bs ss), .val (.tup [.int (w : Int), .int h]), .val LV, .emp, .emp, .emp, .emp, .emp, .emp]) (e1 := D.int) (fun s => tabD k s w) id (l := [-1, 0, 1]) (fun s hs => by
    have e := ltable_is hk bs ss s (by simp at hs; omega) w hw
    show _ = Res.ok (some (tabD k s w)) _
    generalize tabD k s w = TS at *
    generalize ruleD k bs ss = RD at *
    generalize (w : Int) = W at *
    simp! [e, id])
  rw [List.map_id] at hq
  exact hq
theorem least_row {k : Int} (bs ss : List Int) {w h : Nat} (hw : w = 1 ∨ w = 2 ∨ w = 3) {live : List (Int × Int)} (hb : live.all (inBox w h) = true) (nb : live.Nodup) (y : Nat) (L : List (Int × Int)) (CC : List D) (hC : CC.length ≤ 100) :
    ∃ R : List (Int × Int), R.length ≤ 1024 ∧ b_law_least_1 (lS9 (ruleD k bs ss) (.tup [.int (w : Int), .int (h : Int)]) (cells live) (.lst [tabD k (-1) w, tabD k 0 w, tabD k 1 w]) .emp (.val (cells L)) (.own (.lst CC)) (.val (.int (y : Int)))) = .nx (lS9 (ruleD k bs ss) (.tup [.int (w : Int), .int (h : Int)]) (cells live) (.lst [tabD k (-1) w, tabD k 0 w, tabD k 1 w]) .emp (.val (cells R)) (.own (.lst (CC ++ [cells R]))) (.val (.int (y : Int)))) := by
  obtain ⟨R, eR, nR, kR⟩ := lbelow_is (k := k) bs ss hw (dueF live y) L
  refine ⟨R, ring_le hw nR fun p hp => bel_ring ((kR p).mp hp), ?_⟩
  have hdl : (List.range w).map (fun j : Nat => D.bl ((dueF live y).testBit (1 + j))) = (List.range w).map fun j : Nat => D.bl (decide (((j : Int), (y : Int)) ∈ live)) := List.map_congr_left fun j hj => by rw [due_bit (by omega) hb nb y (List.mem_range.mp hj)]
  rw [hdl] at eR
  have r1 : lcRun (gSet 8) xYes (xOp2 dInX (xOpL dTup (xCons (xVar 8) (xCons (xVar 7) xNil))) (xVar 2)) [8] (rangeD 0 w) [] (lS9 (ruleD k bs ss) (.tup [.int (w : Int), .int (h : Int)]) (cells live) (.lst [tabD k (-1) w, tabD k 0 w, tabD k 1 w]) .emp (.val (cells L)) (.own (.lst CC)) (.val (.int (y : Int)))) = .ok ((List.range w).map fun j : Nat => D.bl (decide (((j : Int), (y : Int)) ∈ live))) (lS9 (ruleD k bs ss) (.tup [.int (w : Int), .int (h : Int)]) (cells live) (.lst [tabD k (-1) w, tabD k 0 w, tabD k 1 w]) .emp (.val (cells L)) (.own (.lst CC)) (.val (.int (y : Int)))) := by
    have hr : rangeD 0 w = (List.range w).map fun j : Nat => D.int (j : Int) := by
      unfold rangeD
      exact List.map_congr_left fun j _ => by rw [Int.zero_add]
    rw [hr]
    have hq := lcMap (g := gSet 8) (tt := xYes) (te := xOp2 dInX (xOpL dTup (xCons (xVar 8) (xCons (xVar 7) xNil))) (xVar 2)) (vs := [8]) (ρ := lS9 (ruleD k bs ss) (.tup [.int (w : Int), .int (h : Int)]) (cells live) (.lst [tabD k (-1) w, tabD k 0 w, tabD k 1 w]) .emp (.val (cells L)) (.own (.lst CC)) (.val (.int (y : Int)))) (e1 := fun j : Nat => D.int (j : Int)) (fun j : Nat => D.bl (decide (((j : Int), (y : Int)) ∈ live))) id (l := List.range w) (fun j _ => by
      have hi : inD (.tup [.int (j : Int), .int (y : Int)]) (.lst (live.map cellP)) = some (decide (((j : Int), (y : Int)) ∈ live)) := inD_enc (α := Int × Int) (by decide) ((j : Int), (y : Int)) live
      generalize D.lst [tabD k (-1) w, tabD k 0 w, tabD k 1 w] = TBS
      generalize ruleD k bs ss = RD
      show _ = Res.ok (some (D.bl (decide (((j : Int), (y : Int)) ∈ live)))) _
      generalize decide (((j : Int), (y : Int)) ∈ live) = BB at *
      simp! [cells, hi, id])
    rw [List.map_id] at hq
    exact hq
  have hr : inR (w : Int) = true := inR_of (by omega)
  have hTw : ((w : Int)).toNat = w := Int.toNat_natCast w
  have hzr : (rangeD 0 w).length ≤ sizeLine := by rw [rangeD_len]; exact szn (by omega)
  have hzd : ((List.range w).map fun j : Nat => D.bl (decide (((j : Int), (y : Int)) ∈ live))).length ≤ sizeLine := by rw [List.length_map, List.length_range]; exact szn (by omega)
  have hzR : CC.length < sizeLine := by rw [sizeLine_eq]; omega
  generalize hDU : (List.range w).map (fun j : Nat => D.bl (decide (((j : Int), (y : Int)) ∈ live))) = DU at *
  generalize hTB : D.lst [tabD k (-1) w, tabD k 0 w, tabD k 1 w] = TBS at *
  generalize ruleD k bs ss = RD at *
  obtain ⟨Wi, hWi⟩ : ∃ Wi : Int, (w : Int) = Wi := ⟨_, rfl⟩
  obtain ⟨Hi, hHi⟩ : ∃ Hi : Int, (h : Int) = Hi := ⟨_, rfl⟩
  obtain ⟨Y, hY⟩ : ∃ Y : Int, (y : Int) = Y := ⟨_, rfl⟩
  rw [hWi] at r1 hr hTw ⊢
  rw [hHi] at r1 ⊢
  rw [hY] at r1 ⊢
  unfold b_law_least_1
  simp! [cells] at r1 eR ⊢
  simp! [hr, hTw, hzr, r1, hzd, eR, hzR]
theorem least_ex {k : Int} (hk : Kind k) (bs ss : List Int) {w h : Nat} (z : Size w h) {live : List (Int × Int)} (hb : live.all (inBox w h) = true) (nb : live.Nodup) : ∃ CC : List (List (Int × Int)), f_law_least [ruleD k bs ss, .tup [.int (w : Int), .int (h : Int)], cells live] = .ok (.lst (CC.map cells)) [] ∧ CC.length = h ∧ ∀ L ∈ CC, L.length ≤ 1024 := by
  have hw := z.w
  have hh := z.h
  obtain ⟨ρ', e, CC, lC, mC, L', s7', rfl⟩ := for_list (g := gSet 7) (body := b_law_least_1) (e := fun y : Nat => D.int (y : Int)) (fun i ρ => ∃ CC : List (List (Int × Int)), CC.length = i ∧ (∀ L ∈ CC, L.length ≤ 1024) ∧ ∃ (L : List (Int × Int)) (s7 : Slot), ρ = lS9 (ruleD k bs ss) (.tup [.int (w : Int), .int (h : Int)]) (cells live) (.lst [tabD k (-1) w, tabD k 0 w, tabD k 1 w]) .emp (.val (cells L)) (.own (.lst (CC.map cells))) s7) (l := List.range h) (ρ := lS9 (ruleD k bs ss) (.tup [.int (w : Int), .int (h : Int)]) (cells live) (.lst [tabD k (-1) w, tabD k 0 w, tabD k 1 w]) .emp (.val (cells (allP (2 ^ (w + 2))))) (.own (.lst [])) .emp) ⟨[], rfl, fun _ z => (by cases z), _, _, rfl⟩ (fun i y ρ hi hρ => by
    obtain ⟨CC, lC, mC, L, s7, rfl⟩ := hρ
    have hlt := (List.getElem?_eq_some_iff.mp hi).1
    rw [List.length_range] at hlt
    rw [List.getElem?_range hlt] at hi
    obtain rfl := Option.some.inj hi
    obtain ⟨R, lR, eR⟩ := least_row (k := k) (bs := bs) (ss := ss) hw hb nb i L (CC.map cells) (by rw [List.length_map]; omega)
    refine ⟨_, rfl, _, .inl eR, CC ++ [R], by rw [List.length_append, lC]; rfl, fun K hK => ?_, R, _, by rw [List.map_append]; rfl⟩
    rcases List.mem_append.mp hK with q | q
    · exact mC K q
    · rw [List.mem_singleton.mp q]; exact lR)
  rw [List.length_range] at lC
  refine ⟨CC, ?_, lC, mC⟩
  have hrg : (List.range h).map (fun y : Nat => D.int (y : Int)) = rangeD 0 h := by
    unfold rangeD
    exact List.map_congr_left fun j _ => by rw [Int.zero_add]
  rw [hrg] at e
  have tr := least_tabs hk bs ss hw (h : Int) (cells live)
  have ev := every_is hw
  have htl : dLen [tabD k (-1) w] = some (.int ((2 ^ (w + 2) : Nat) : Int)) := by
    unfold tabD
    show some (D.int (((List.range (2 ^ (w + 2))).map _).length : Nat)) = _
    rw [List.length_map, List.length_range]
  have hz3 : (rangeD (-1) 3).length ≤ sizeLine := by rw [rangeD_len]; exact szn (by omega)
  have hz4 : ([tabD k (-1) w, tabD k 0 w, tabD k 1 w] : List D).length ≤ sizeLine := szn (show 3 ≤ 1000 by omega)
  have hr2 : inR (h : Int) = true := inR_of (by omega)
  have hTh : ((h : Int)).toNat = h := Int.toNat_natCast h
  have i1 : inR (-1 : Int) = true := inR_of (by omega)
  have i2 : inR (2 : Int) = true := inR_of (by omega)
  obtain ⟨HI, hHI⟩ : ∃ HI : Int, (h : Int) = HI := ⟨_, rfl⟩
  obtain ⟨Wi, hWi⟩ : ∃ Wi : Int, (w : Int) = Wi := ⟨_, rfl⟩
  obtain ⟨NI, hNI⟩ : ∃ NI : Int, ((2 ^ (w + 2) : Nat) : Int) = NI := ⟨_, rfl⟩
  rw [hHI] at e tr hr2 hTh ⊢
  rw [hWi] at e tr ⊢
  rw [hNI] at ev htl
  generalize CC.map cells = LC at *
  generalize allP (2 ^ (w + 2)) = AP at *
  generalize tabD k (-1) w = T1 at *
  generalize tabD k 0 w = T2 at *
  generalize tabD k 1 w = T3 at *
  unfold f_law_least b_law_least
  simp! [cells, ruleD] at e tr ev ⊢
  simp! [i1, i2, hz3, tr, hz4, htl, ev, hr2, hTh, e]

theorem size_ex {n : Nat} {p : D} (hp : PenOk n p) (hn : n + 100 < 2 ^ 60) (X : Int) : ∃ (w h : Nat) (p' : D), f_law_size [p, .int X] = .ok (.tup [.int (w : Int), .int (h : Int)]) [p'] ∧ Size w h ∧ PenOk (n + 4) p' := by
  unfold f_law_size b_law_size
  rw [draw_is]
  obtain ⟨m, p1, e1, a1, b1, h1⟩ := draw_ex hp (by omega) (m := 40) (by decide) (by decide)
  by_cases c1 : m = 39 ∧ X = 1
  · obtain ⟨rfl, rfl⟩ := c1
    obtain ⟨d, p2, e2, a2, b2, h2⟩ := draw_ex h1 (by omega) (m := 4) (by decide) (by decide)
    have d3 : dDiv (.int d) (.int 3) = some (.int (d / 3)) := zee (CDivW.s d ⟨by decide, by decide⟩)
    refine ⟨3, (1 + d / 3).toNat, p2, ?_, by unfold Size; omega, h2.mono (by omega)⟩
    have q2 : (((1 + d / 3).toNat : Nat) : Int) = 1 + d / 3 := by omega
    have q3 : ((3 : Nat) : Int) = 3 := rfl
    rw [q2, q3]
    generalize d / 3 = Q at *
    simp! [e1, e2, d3]
  · by_cases c2 : m < 5
    · obtain ⟨M, hM, ha⟩ : ∃ M : Nat, (0 < M ∧ M ≤ 4) ∧ ∀ B : Bool, B = decide (1 < X) → (dInt [.bl B]).bind (fun i => dIx (.lst [.int 4, .int 2]) i) = some (.int (M : Int)) := by
        by_cases z : 1 < X
        · exact ⟨2, by decide, fun B hB => by rw [hB, decide_eq_true z]; rfl⟩
        · exact ⟨4, by decide, fun B hB => by rw [hB, decide_eq_false z]; rfl⟩
      obtain ⟨y, p2, e2, a2, b2, h2⟩ := draw_ex h1 (by omega) (m := (M : Int)) (by omega) (by omega)
      refine ⟨2, (1 + y).toNat, p2, ?_, by unfold Size; omega, h2.mono (by omega)⟩
      have q2 : (((1 + y).toNat : Nat) : Int) = 1 + y := by omega
      have q3 : ((2 : Nat) : Int) = 2 := rfl
      rw [q2, q3]
      have ha := ha _ rfl
      obtain ⟨MI, hMI⟩ : ∃ MI : Int, (M : Int) = MI := ⟨_, rfl⟩
      rw [hMI] at e2 ha
      have z39 : ¬ m = 39 := by omega
      by_cases z : 1 < X
      · simp! [z, dInt_bl] at ha
        simp! [e1, z39, c2, z, zeD, dInt_bl, ha, e2]
      · simp! [z, dInt_bl] at ha
        simp! [e1, z39, c2, z, zeD, dInt_bl, ha, e2]
    · obtain ⟨d, p2, e2, a2, b2, h2⟩ := draw_ex h1 (by omega) (m := 2) (by decide) (by decide)
      obtain ⟨M, hM, ha⟩ : ∃ M : Nat, (0 < M ∧ M ≤ 6) ∧ atI [D.int 3, .int 6] d = some (.int (M : Int)) := by
        rcases (show d = 0 ∨ d = 1 by omega) with rfl | rfl
        · exact ⟨3, by decide, rfl⟩
        · exact ⟨6, by decide, rfl⟩
      obtain ⟨y, p3, e3, a3, b3, h3⟩ := draw_ex h2 (by omega) (m := (M : Int)) (by omega) (by omega)
      refine ⟨1, (1 + y).toNat, p3, ?_, by unfold Size; omega, h3.mono (by omega)⟩
      have q2 : (((1 + y).toNat : Nat) : Int) = 1 + y := by omega
      have q3 : ((1 : Nat) : Int) = 1 := rfl
      rw [q2, q3]
      obtain ⟨MI, hMI⟩ : ∃ MI : Int, (M : Int) = MI := ⟨_, rfl⟩
      rw [hMI] at e3 ha
      by_cases z : m = 39
      · have z2 : ¬ X = 1 := fun y => c1 ⟨z, y⟩
        rw [z] at e1
        simp! [e1, z2, zeD, e2, ha, e3]
      · simp! [e1, z, c2, zeD, e2, ha, e3]
def Live (w h : Nat) (l : List (Int × Int)) : Prop := l.all (inBox w h) = true ∧ l.Nodup ∧ l.length ≤ 100

abbrev pS (p SZ : D) (W : Int) (cs : List (Int × Int)) (s4 s5 : Slot) : Rho := [.own p, .val SZ, .val (.int W), .own (.lst (cs.map cellP)), s4, s5]
def Lv (w h x y : Nat) (cs : List (Int × Int)) : Prop := cs.Nodup ∧ cs.length ≤ x * h + y ∧ ∀ c ∈ cs, inBox w h c = true ∧ (c.1 < x ∨ (c.1 = x ∧ c.2 < y))
theorem Lv.step {w h x y : Nat} {cs : List (Int × Int)} (l : Lv w h x y cs) (hx : x < w) (hy : y < h) {cs' : List (Int × Int)} (e : cs' = cs ∨ cs' = cs ++ [((x : Int), (y : Int))]) : Lv w h x (y + 1) cs' := by
  obtain ⟨l1, l2, l3⟩ := l
  have l4 : ∀ c ∈ cs, inBox w h c = true ∧ (c.1 < x ∨ (c.1 = x ∧ c.2 < (y + 1 : Nat))) := fun c hc => ⟨(l3 c hc).1, by have := (l3 c hc).2; omega⟩
  rcases e with rfl | rfl
  · exact ⟨l1, by omega, l4⟩
  · refine ⟨List.nodup_append.mpr ⟨l1, by simp, fun a ha b hb e => ?_⟩, by rw [List.length_append, List.length_singleton]; omega, fun c hc => ?_⟩
    · rw [List.mem_singleton.mp hb] at e
      have := (l3 a ha).2
      rw [e] at this
      simp only at this
      omega
    · rcases List.mem_append.mp hc with q | q
      · exact l4 c q
      · rw [List.mem_singleton.mp q]
        refine ⟨?_, .inr ⟨rfl, by simp only; omega⟩⟩
        unfold inBox
        simp only [Bool.and_eq_true, decide_eq_true_eq]
        omega
theorem pic_turn {n : Nat} {p : D} (hp : PenOk n p) (hn : n + 5 < 2 ^ 60) (SZ : D) (W : Int) (cs : List (Int × Int)) (hl : cs.length ≤ 100) (x y : Int) : ∃ (cs' : List (Int × Int)) (p' : D), b_law_picture_1 (pS p SZ W cs (.val (.int x)) (.val (.int y))) = .nx (pS p' SZ W cs' (.val (.int x)) (.val (.int y))) ∧ (cs' = cs ∨ cs' = cs ++ [(x, y)]) ∧ PenOk (n + 1) p' := by
  have hz : (cs.map cellP).length < sizeLine := by rw [List.length_map, sizeLine_eq]; omega
  unfold b_law_picture_1 pS
  rw [draw_is]
  have ap : (cs ++ [(x, y)]).map cellP = cs.map cellP ++ [D.tup [.int x, .int y]] := by rw [List.map_append]; rfl
  by_cases c1 : W = 1
  · refine ⟨cs ++ [(x, y)], p, ?_, .inr rfl, hp.mono (by omega)⟩
    show _ = Fl.nx [.own p, .val SZ, .val (.int W), .own (.lst ((cs ++ [(x, y)]).map cellP)), .val (.int x), .val (.int y)]
    rw [ap]
    generalize cs.map cellP = DD at *
    simp! [c1, hz]
  · by_cases c2 : 1 < W
    · obtain ⟨r, p', e, a, b, h⟩ := draw_ex hp (by omega) (m := 2) (by decide) (by decide)
      by_cases c3 : r = 1
      · refine ⟨cs ++ [(x, y)], p', ?_, .inr rfl, h⟩
        show _ = Fl.nx [.own p', .val SZ, .val (.int W), .own (.lst ((cs ++ [(x, y)]).map cellP)), .val (.int x), .val (.int y)]
        rw [ap]
        rw [c3] at e
        generalize cs.map cellP = DD at *
        simp! [c1, c2, e, hz]
      · refine ⟨cs, p', ?_, .inl rfl, h⟩
        show _ = Fl.nx [.own p', .val SZ, .val (.int W), .own (.lst (cs.map cellP)), .val (.int x), .val (.int y)]
        generalize cs.map cellP = DD at *
        simp! [c1, c2, e, c3]
    · refine ⟨cs, p, ?_, .inl rfl, hp.mono (by omega)⟩
      show _ = Fl.nx [.own p, .val SZ, .val (.int W), .own (.lst (cs.map cellP)), .val (.int x), .val (.int y)]
      generalize cs.map cellP = DD at *
      simp! [c1, c2]
theorem range_ints (h : Nat) : (List.range h).map (fun y : Nat => D.int (y : Int)) = rangeD 0 h := by
  unfold rangeD
  exact List.map_congr_left fun j _ => by rw [Int.zero_add]
theorem pic_col {n : Nat} {p : D} (hp : PenOk n p) (hn : n + 50 < 2 ^ 60) {w h : Nat} (z : Size w h) (W : Int) {x : Nat} (hx : x < w) {cs : List (Int × Int)} (l : Lv w h x 0 cs) (s5 : Slot) : ∃ (cs' : List (Int × Int)) (p' : D) (s5' : Slot), b_law_picture_2 (pS p (.tup [.int (w : Int), .int (h : Int)]) W cs (.val (.int (x : Int))) s5) = .nx (pS p' (.tup [.int (w : Int), .int (h : Int)]) W cs' (.val (.int (x : Int))) s5') ∧ Lv w h (x + 1) 0 cs' ∧ PenOk (n + 10) p' := by
  have hh := z.h
  have hw := z.w
  obtain ⟨ρ', e, cs', p', s5', rfl, l', h'⟩ := for_list (g := gSet 5) (body := b_law_picture_1) (e := fun y : Nat => D.int (y : Int)) (fun i ρ => ∃ (cs : List (Int × Int)) (p : D) (s5 : Slot), ρ = pS p (.tup [.int (w : Int), .int (h : Int)]) W cs (.val (.int (x : Int))) s5 ∧ Lv w h x i cs ∧ PenOk (n + i) p) (l := List.range h) (ρ := pS p (.tup [.int (w : Int), .int (h : Int)]) W cs (.val (.int (x : Int))) s5) ⟨cs, p, s5, rfl, l, hp⟩ (fun i y ρ hi hρ => by
    obtain ⟨cs, p, s5, rfl, l, hp⟩ := hρ
    have hlt := (List.getElem?_eq_some_iff.mp hi).1
    rw [List.length_range] at hlt
    rw [List.getElem?_range hlt] at hi
    obtain rfl := Option.some.inj hi
    have hl : cs.length ≤ 100 := by
      have h1 := l.2.1
      have : x * h ≤ 3 * 6 := Nat.mul_le_mul (by omega) (by omega)
      omega
    obtain ⟨cs', p', e, o, h'⟩ := pic_turn hp (by omega) (.tup [.int (w : Int), .int (h : Int)]) W cs hl (x : Int) (i : Int)
    exact ⟨_, rfl, _, .inl e, cs', p', _, rfl, l.step hx hlt o, h'⟩)
  rw [List.length_range] at l' h'
  refine ⟨cs', p', s5', ?_, ⟨l'.1, by have := l'.2.1; rw [Nat.succ_mul]; omega, fun c hc => ⟨(l'.2.2 c hc).1, by have := (l'.2.2 c hc).2; omega⟩⟩, h'.mono (by omega)⟩
  rw [range_ints] at e
  have hr2 : inR (h : Int) = true := inR_of (by omega)
  have hTh : ((h : Int)).toNat = h := Int.toNat_natCast h
  obtain ⟨HI, hHI⟩ : ∃ HI : Int, (h : Int) = HI := ⟨_, rfl⟩
  obtain ⟨Wi, hWi⟩ : ∃ Wi : Int, (w : Int) = Wi := ⟨_, rfl⟩
  obtain ⟨Xi, hXi⟩ : ∃ Xi : Int, (x : Int) = Xi := ⟨_, rfl⟩
  rw [hHI, hWi, hXi] at e
  rw [hHI] at hr2 hTh ⊢
  rw [hWi, hXi]
  unfold pS at e ⊢
  unfold b_law_picture_2
  generalize cs.map cellP = DD at *
  generalize cs'.map cellP = D2 at *
  simp! [hr2, hTh, e]
theorem picture_ex {n : Nat} {p : D} (hp : PenOk n p) (hn : n + 100 < 2 ^ 60) {w h : Nat} (z : Size w h) : ∃ (live : List (Int × Int)) (p' : D), f_law_picture [p, .tup [.int (w : Int), .int (h : Int)]] = .ok (cells live) [p'] ∧ Live w h live ∧ PenOk (n + 50) p' := by
  have hh := z.h
  have hw := z.w
  obtain ⟨m, p1, e1, a1, b1, h1⟩ := draw_ex hp (by omega) (m := 4) (by decide) (by decide)
  obtain ⟨ρ', e, cs', p', s4', s5', rfl, l', h'⟩ := for_list (g := gSet 4) (body := b_law_picture_2) (e := fun y : Nat => D.int (y : Int)) (fun i ρ => ∃ (cs : List (Int × Int)) (p : D) (s4 s5 : Slot), ρ = pS p (.tup [.int (w : Int), .int (h : Int)]) m cs s4 s5 ∧ Lv w h i 0 cs ∧ PenOk (n + 1 + 10 * i) p) (l := List.range w) (ρ := pS p1 (.tup [.int (w : Int), .int (h : Int)]) m [] .emp .emp) ⟨[], p1, .emp, .emp, rfl, ⟨List.nodup_nil, Nat.zero_le _, fun c hc => by cases hc⟩, h1⟩ (fun i y ρ hi hρ => by
    obtain ⟨cs, p, s4, s5, rfl, l, hp⟩ := hρ
    have hlt := (List.getElem?_eq_some_iff.mp hi).1
    rw [List.length_range] at hlt
    rw [List.getElem?_range hlt] at hi
    obtain rfl := Option.some.inj hi
    obtain ⟨cs', p', s5', e, l', h'⟩ := pic_col hp (by omega) z m hlt l s5
    exact ⟨_, rfl, _, .inl e, cs', p', _, _, rfl, l', h'.mono (by omega)⟩)
  rw [List.length_range] at l' h'
  refine ⟨cs', p', ?_, ⟨List.all_eq_true.mpr fun c hc => (l'.2.2 c hc).1, l'.1, ?_⟩, h'.mono (by omega)⟩
  · rw [range_ints] at e
    have hr2 : inR (w : Int) = true := inR_of (by omega)
    have hTh : ((w : Int)).toNat = w := Int.toNat_natCast w
    obtain ⟨HI, hHI⟩ : ∃ HI : Int, (h : Int) = HI := ⟨_, rfl⟩
    obtain ⟨Wi, hWi⟩ : ∃ Wi : Int, (w : Int) = Wi := ⟨_, rfl⟩
    rw [hHI, hWi] at e
    rw [hWi] at hr2 hTh ⊢
    rw [hHI]
    unfold f_law_picture b_law_picture
    rw [draw_is]
    show _ = FR.ok (D.lst (cs'.map cellP)) _
    unfold pS at e
    generalize cs'.map cellP = D2 at *
    simp! [List.map_nil] at e ⊢
    simp! [e1, hr2, hTh, e]
  · have h1 := l'.2.1
    have : w * h ≤ 3 * 6 := Nat.mul_le_mul (by omega) (by omega)
    omega

def bads (P : Int) : List D := [.tup [.int 0, .int 1], .tup [.int 4, .int 1], .tup [.int 1, .int 7], .tup [.int 3, .int 4], .tup [.int 2, .int 5], .lst [.int 1, .int 1], .tup [.int 1], .non, .tup [.bl true, .int 1], .str "11", .tup [.int (-1), .int P]]
theorem bad_all (R : D) (A : List D) (LL : D) (P : Int) : ∀ d ∈ bads P, f_holds_none [R, d, .lst A, LL] = .exc "NoSize" [] := by
  intro d hd
  unfold bads at hd
  simp only [List.mem_cons, List.not_mem_nil, or_false] at hd
  rcases hd with rfl | rfl | rfl | rfl | rfl | rfl | rfl | rfl | rfl | rfl | rfl <;> kernel_rfl
theorem bad_ex {n : Nat} {p : D} (hp : PenOk n p) (hn : n + 5 < 2 ^ 60) : ∃ (P : Int) (d p' : D), f_law_bad [p] = .ok d [p'] ∧ d ∈ bads P ∧ PenOk (n + 1) p' := by
  obtain ⟨m, p1, e1, a1, b1, h1⟩ := draw_ex hp (by omega) (m := 11) (by decide) (by decide)
  obtain ⟨P, hP⟩ : ∃ P : Int, P = 10 ^ 40 := ⟨_, rfl⟩
  have dp : dPow (.int 10) (.int 40) = some (.int P) := by rw [hP]; kernel_rfl
  have h11 : dLst (bads P) = some (.lst (bads P)) := dLst_ap (szn (show 11 ≤ 1000 by decide))
  have hl : dLen [.lst (bads P)] = some (.int 11) := rfl
  obtain ⟨j, rfl⟩ := Int.eq_ofNat_of_zero_le a1
  have hj : j < (bads P).length := by show j < 11; omega
  have ha : atI (bads P) (j : Int) = some (bads P)[j] := atI_nat (List.getElem?_eq_getElem hj)
  refine ⟨P, (bads P)[j], p1, ?_, List.getElem_mem hj, h1⟩
  unfold f_law_bad b_law_bad
  rw [draw_is]
  generalize (bads P)[j] = B at *
  generalize (j : Int) = J at *
  unfold bads at h11 hl ha
  clear hP
  simp! [dp, h11] 
  simp! [hl, e1, ha]
theorem refused_no {R d : D} {A : List D} {LL : D} (h : f_holds_none [R, d, .lst A, LL] = .exc "NoSize" []) : f_law_refused [R, d, .lst A, LL] = .ok (.lst [.bl true, .bl false, .bl true]) [] := by
  unfold f_law_refused b_law_refused b_law_refused_1 e_law_refused_2
  simp! [h]
  kernel_rfl
theorem refused_out {R d : D} {A : List D} {LL : D} (h : f_holds_none [R, d, .lst A, LL] = .exc "Outside" []) : f_law_refused [R, d, .lst A, LL] = .ok (.lst [.bl false, .bl true, .bl true]) [] := by
  unfold f_law_refused b_law_refused b_law_refused_1 e_law_refused_2
  simp! [h]
  kernel_rfl
theorem none_out (k : Int) (bs ss : List Int) {w h : Nat} (z : Size w h) {live : List (Int × Int)} (hb : live.all (inBox w h) = false) (LL : D) : f_holds_none [ruleD k bs ss, .tup [.int (w : Int), .int (h : Int)], cells live, LL] = .exc "Outside" [] := by
  have ea := ask_is z live
  rw [if_neg (by rw [hb]; decide)] at ea
  obtain ⟨Wi, hW⟩ : ∃ Wi : Int, (w : Int) = Wi := ⟨_, rfl⟩
  obtain ⟨Hi, hH⟩ : ∃ Hi : Int, (h : Int) = Hi := ⟨_, rfl⟩
  rw [hW, hH] at ea ⊢
  unfold f_holds_none b_holds_none
  simp! [cells] at ea ⊢
  simp! [ea]
theorem pick5 (j : Int) (h0 : 0 ≤ j) (h1 : j < 5) (P : Int) (hP : 3 ≤ P) : ∃ c : Int × Int, atI [D.tup [.int (-1), .int 0], .tup [.int 1, .int 0], .tup [.int 0, .int (-1)], .tup [.int 0, .int 2], .tup [.int P, .int 1]] j = some (cellP c) ∧ inBox ((1 : Nat) : Int) ((2 : Nat) : Int) c = false := by
  rcases (show j = 0 ∨ j = 1 ∨ j = 2 ∨ j = 3 ∨ j = 4 by omega) with rfl | rfl | rfl | rfl | rfl
  · exact ⟨(-1, 0), rfl, by decide⟩
  · exact ⟨(1, 0), rfl, by decide⟩
  · exact ⟨(0, -1), rfl, by decide⟩
  · exact ⟨(0, 2), rfl, by decide⟩
  · refine ⟨(P, 1), rfl, ?_⟩
    unfold inBox
    rw [decide_eq_false (show ¬ (P < ((1 : Nat) : Int)) by omega)]
    simp

/-- one more list -/
theorem again_is {n : Nat} {p : D} (hp : PenOk n p) (hn : n + 50 < 2 ^ 60) {k : Int} (hk : Kind k) (bs ss : List Int) {w h : Nat} (z : Size w h) {live : List (Int × Int)} (hlv : Live w h live) {CC : List (List (Int × Int))} (hC : OkL 20 1500 CC) (h0 : 0 < CC.length) (FX : D) (s1 s3 s4 s9 s10 s11 s12 : Slot) :
    ∃ (p' : D) (s10' s11' s12' : Slot), b_law_1 [.val FX, s1, .val (ruleD k bs ss), s3, s4, .own p, .val (.tup [.int (w : Int), .int (h : Int)]), .val (cells live), .val (.lst (CC.map cells)), s9, s10, s11, s12, .emp] = .nx [.val FX, s1, .val (ruleD k bs ss), s3, s4, .own p', .val (.tup [.int (w : Int), .int (h : Int)]), .val (cells live), .val (.lst (CC.map cells)), s9, s10', s11', s12', .emp] ∧ PenOk (n + 20) p' := by
  have hw := z.w
  obtain ⟨M, hM, hM2⟩ : ∃ M : Int, dShl (.int 1) (.int ((w : Int) + 2)) = some (.int M) ∧ 0 < M ∧ M < 100 := by
    rcases hw with rfl | rfl | rfl
    · exact ⟨8, by kernel_rfl, by decide, by decide⟩
    · exact ⟨16, by kernel_rfl, by decide, by decide⟩
    · exact ⟨32, by kernel_rfl, by decide, by decide⟩
  obtain ⟨LL, p', eB, hL, h1⟩ := bent_ex hp hn hC h0 hM2
  have hl : ∀ L ∈ LL, L.length ≤ 2000 := fun L q => Nat.le_trans (hL.2 L q) (by decide)
  obtain ⟨b1, e1, i1⟩ := holds_none_g hk bs ss z hlv.1 hlv.2.1 hlv.2.2 LL hl
  obtain ⟨b2, e2, i2⟩ := lpaper_is hk bs ss z hlv.1 hlv.2.1 LL hl
  have hb : b1 = b2 := by rw [Bool.eq_iff_iff, i1, i2]
  subst hb
  have qp : eqD (.lst (LL.map cells)) (.lst (LL.map cells)) = some true := by rw [eq_pics, decide_eq_true rfl]
  have qb : eqD (.bl b1) (.bl b1) = some true := by cases b1 <;> kernel_rfl
  have hz : (LL.map cells).length ≤ sizeLine := by rw [List.length_map]; exact szH (by have := hL.1; omega)
  have hzl : (live.map cellP).length ≤ sizeLine := by rw [List.length_map]; exact szH (by have := hlv.2.2; omega)
  have run : ∀ s3 s4 : Slot, lcRun (gSet 13) xYes (xOpL dList (xCons (xVar 13) xNil)) [13] (LL.map cells) [] [.val FX, s1, .val (ruleD k bs ss), s3, s4, .own p', .val (.tup [.int (w : Int), .int (h : Int)]), .val (cells live), .val (.lst (CC.map cells)), s9, .val (.lst (LL.map cells)), s11, s12, .emp] = .ok (LL.map cells) [.val FX, s1, .val (ruleD k bs ss), s3, s4, .own p', .val (.tup [.int (w : Int), .int (h : Int)]), .val (cells live), .val (.lst (CC.map cells)), s9, .val (.lst (LL.map cells)), s11, s12, .emp] := fun s3 s4 => by
    have hq := lcMap (g := gSet 13) (tt := xYes) (te := xOpL dList (xCons (xVar 13) xNil)) (vs := [13]) (ρ := [.val FX, s1, .val (ruleD k bs ss), s3, s4, .own p', .val (.tup [.int (w : Int), .int (h : Int)]), .val (cells live), .val (.lst (CC.map cells)), s9, .val (.lst (LL.map cells)), s11, s12, .emp]) (e1 := cells) (fun L : List (Int × Int) => cells L) id (l := LL) (fun L hLm => by
      have zL : (L.map cellP).length ≤ sizeLine := by rw [List.length_map]; exact szH (by have := hl L hLm; omega)
      show lcStep _ _ _ _ (D.lst (L.map cellP)) _ = Res.ok (some (D.lst (L.map cellP))) _
      generalize L.map cellP = LM at *
      generalize LL.map cells = DD at *
      generalize ruleD k bs ss = RD at *
      rfl)
    rw [List.map_id] at hq
    exact hq
  have run := run s3 s4
  refine ⟨p', .val (.lst (LL.map cells)), .val (.lst (LL.map cells)), .val (.bl b1), ?_, h1⟩
  have isb : dIsi [.bl b1, .ty "bool"] = some (.bl true) := by cases b1 <;> kernel_rfl
  clear i1 i2
  obtain ⟨Wi, hWi⟩ : ∃ Wi : Int, (w : Int) = Wi := ⟨_, rfl⟩
  obtain ⟨Hi, hHi⟩ : ∃ Hi : Int, (h : Int) = Hi := ⟨_, rfl⟩
  rw [hWi] at hM e1 e2 run ⊢
  rw [hHi] at e1 e2 run ⊢
  unfold b_law_1
  generalize LL.map cells = DD at *
  generalize CC.map cells = DC at *
  simp! [cells, ruleD] at e1 e2 run ⊢
  simp! [hM, eB, run, hz, hzl, e1, isb, e2, qb, qp]

theorem turn_is (ns : List Int) {k : Int} (hk : Kind k) (bs ss : List Int) (x : Nat) {X : Int} (hX : (x : Int) = X) (S1 S3 s5 s6 s7 s8 s9 s10 s11 s12 : Slot) : ∃ t5 t6 t7 t8 t9 t10 t11 t12, b_law_2 [.val (.fix (ns.map D.int)), S1, .val (ruleD k bs ss), S3, .val (.int X), s5, s6, s7, s8, s9, s10, s11, s12, .emp] = .nx [.val (.fix (ns.map D.int)), S1, .val (ruleD k bs ss), S3, .val (.int X), t5, t6, t7, t8, t9, t10, t11, t12, .emp] := by
  obtain ⟨p, hp, hp0⟩ := pen_ex ns x
  rw [hX] at hp
  obtain ⟨w, h, p1, e1, z, h1⟩ := size_ex hp0 (by decide) X
  obtain ⟨live, p2, e2, hlv, h2⟩ := picture_ex h1 (by decide) z
  obtain ⟨CC, e3, hC, mC⟩ := least_ex hk bs ss z hlv.1 hlv.2.1
  have hh := z.h
  have hw := z.w
  have oC : OkL 20 1500 CC := ⟨by omega, fun L hL => Nat.le_trans (mC L hL) (by decide)⟩
  obtain ⟨T, hT1, hT2, hT⟩ : ∃ T : Nat, (dDiv (.int (w : Int)) (.int 3)).bind (fun q => dSub (.int 2) q) = some (.int (T : Int)) ∧ T ≤ 2 ∧ (dDiv (.int (w : Int)) (.int 3) = some (.int (2 - (T : Int)))) := by
    rcases hw with rfl | rfl | rfl
    · exact ⟨2, by kernel_rfl, by decide, by kernel_rfl⟩
    · exact ⟨2, by kernel_rfl, by decide, by kernel_rfl⟩
    · exact ⟨1, by kernel_rfl, by decide, by kernel_rfl⟩
  obtain ⟨ρ', e, p', t9, t10, t11, t12, rfl, _⟩ := for_list (g := gSet 9) (body := b_law_1) (e := fun y : Nat => D.int (y : Int)) (fun i ρ => ∃ (p : D) (t9 t10 t11 t12 : Slot), ρ = [.val (.fix (ns.map D.int)), S1, .val (ruleD k bs ss), S3, .val (.int X), .own p, .val (.tup [.int (w : Int), .int (h : Int)]), .val (cells live), .val (.lst (CC.map cells)), t9, t10, t11, t12, .emp] ∧ PenOk (0 + 4 + 50 + 20 * i) p) (l := List.range T) (ρ := [.val (.fix (ns.map D.int)), S1, .val (ruleD k bs ss), S3, .val (.int X), .own p2, .val (.tup [.int (w : Int), .int (h : Int)]), .val (cells live), .val (.lst (CC.map cells)), s9, s10, s11, s12, .emp]) ⟨p2, s9, s10, s11, s12, rfl, h2⟩ (fun i y ρ hi hρ => by
    obtain ⟨p, t9, t10, t11, t12, rfl, hp⟩ := hρ
    have hlt := (List.getElem?_eq_some_iff.mp hi).1
    rw [List.length_range] at hlt
    rw [List.getElem?_range hlt] at hi
    obtain rfl := Option.some.inj hi
    refine ⟨_, rfl, ?_⟩
    obtain ⟨p', u10, u11, u12, e, hp'⟩ := again_is hp (by omega) hk bs ss z hlv oC (by omega) (.fix (ns.map D.int)) S1 S3 (.val (.int X)) (.val (.int (i : Int))) t10 t11 t12
    exact ⟨_, .inl e, p', _, _, _, _, rfl, hp'.mono (by omega)⟩)
  rw [range_ints] at e
  refine ⟨.own p', .val (.tup [.int (w : Int), .int (h : Int)]), .val (cells live), .val (.lst (CC.map cells)), t9, t10, t11, t12, ?_⟩
  have hr2 : inR (T : Int) = true := inR_of (by omega)
  have hTh : ((T : Int)).toNat = T := Int.toNat_natCast T
  obtain ⟨Ti, hTi⟩ : ∃ Ti : Int, (T : Int) = Ti := ⟨_, rfl⟩
  obtain ⟨Wi, hWi⟩ : ∃ Wi : Int, (w : Int) = Wi := ⟨_, rfl⟩
  obtain ⟨Hi, hHi⟩ : ∃ Hi : Int, (h : Int) = Hi := ⟨_, rfl⟩
  have hsb : 2 - (2 - Ti) = Ti := by omega
  rw [hTi] at hr2 hTh hT
  rw [hWi, hHi] at e1 e2 e3 e ⊢
  rw [hWi] at hT
  clear hT1
  unfold b_law_2
  generalize CC.map cells = DC at *
  generalize 2 - Ti = TQ at *
  simp! [cells, ruleD] at e e1 e2 e3 ⊢
  simp! [pen_is, hp, e1, e2, e3, hT, hsb, hr2, hTh, e]
theorem size12 : Size 1 2 := by unfold Size; omega
theorem main (ns : List Int) (hl : ns.length ≤ 63) : f_law [.fix (ns.map D.int)] = .ok (.bl true) [] := by
  obtain ⟨p, hp, hp0⟩ := pen_ex ns 0
  change fPen [.fix (ns.map D.int), .int 0] = .ok p [] at hp
  obtain ⟨k, bs, ss, p1, e1, hk, _, _, h1⟩ := rule_ex hp0 (by decide)
  obtain ⟨M, hM, hmax⟩ : ∃ M : Int, (2 ≤ M ∧ M ≤ 4) ∧ mx 2 (mn ((ns.map D.int).length : Nat) 4) = M := by
    refine ⟨_, ?_, rfl⟩
    rw [List.length_map]
    unfold mx mn
    split <;> split <;> omega
  obtain ⟨j, p2, e2, a2, b2, h2⟩ := draw_ex h1 (by decide) (m := 5) (by decide) (by decide)
  have c1 : CPow 10 59 := cpow10 ⟨by decide, by decide⟩
  obtain ⟨PP, hP, hP0⟩ : ∃ P : Int, (10 : Int) ^ (59 : Nat) = P ∧ 3 ≤ P := ⟨_, rfl, by decide⟩
  have dp : dPow (.int 10) (.int 59) = some (.int PP) := by
    rw [← hP]
    simp! [c1]
  obtain ⟨c, ec, hc⟩ := pick5 j a2 b2 PP hP0
  obtain ⟨P4, B, p3, e3, hB, h3⟩ := bad_ex h2 (by decide)
  obtain ⟨r, p4, e4, a4, b4, h4⟩ := draw_ex h3 (by decide) (m := 2) (by decide) (by decide)
  have r1 : f_law_refused [ruleD k bs ss, .tup [.int 1, .int 2], .lst [cellP c], .lst [.lst [], .lst []]] = .ok (.lst [.bl false, .bl true, .bl true]) [] := refused_out (none_out k bs ss size12 (live := [c]) (by rw [List.all_cons, hc]; rfl) _)
  obtain ⟨A, eA⟩ : ∃ A : List D, atI [D.lst [.tup [.int 0, .int 0]], .lst [cellP c]] r = some (.lst A) := by
    rcases (show r = 0 ∨ r = 1 by omega) with rfl | rfl
    · exact ⟨_, rfl⟩
    · exact ⟨_, rfl⟩
  have r2 := refused_no (bad_all (ruleD k bs ss) A (.lst [.lst []]) P4 B hB)
  have q2 : eqD (.lst [.bl false, .bl true, .bl true]) (.lst [.bl false, .bl true, .bl true]) = some true := by kernel_rfl
  have q3 : eqD (.lst [.bl true, .bl false, .bl true]) (.lst [.bl true, .bl false, .bl true]) = some true := by kernel_rfl
  obtain ⟨ρ', e, S4, S5, S6, S7, S8, S9, S10, S11, S12, rfl⟩ := for_range_inv (g := gSet 4) (body := b_law_2) (lo := 1) (n := (M - 1).toNat) (fun i ρ => ∃ S4 S5 S6 S7 S8 S9 S10 S11 S12 : Slot, ρ = [.val (.fix (ns.map D.int)), .own p4, .val (ruleD k bs ss), .val (cellP c), S4, S5, S6, S7, S8, S9, S10, S11, S12, .emp]) (ρ := [.val (.fix (ns.map D.int)), .own p4, .val (ruleD k bs ss), .val (cellP c), .emp, .emp, .emp, .emp, .emp, .emp, .emp, .emp, .emp, .emp]) ⟨_, _, _, _, _, _, _, _, _, rfl⟩ (fun i ρ hi hρ => by
    obtain ⟨S4, S5, S6, S7, S8, S9, S10, S11, S12, rfl⟩ := hρ
    refine ⟨_, rfl, ?_⟩
    obtain ⟨t5, t6, t7, t8, t9, t10, t11, t12, e⟩ := turn_is ns hk bs ss (1 + i) (X := 1 + (i : Int)) (by omega) (.own p4) (.val (cellP c)) S5 S6 S7 S8 S9 S10 S11 S12
    exact ⟨_, .inl e, _, _, _, _, _, _, _, _, _, rfl⟩)
  have hr1 : inR (1 : Int) = true := inR_of (by omega)
  have hrM : inR M = true := inR_of (by omega)
  have hz2 : (rangeD 1 (M - 1).toNat).length ≤ sizeLine := by rw [rangeD_len]; exact szn (by omega)
  have h5 : ∀ a b c d e : D, dLst [a, b, c, d, e] = some (.lst [a, b, c, d, e]) := fun a b c d e => dLst_ap (szn (show 5 ≤ 1000 by decide))
  clear r1
  have r1 : f_law_refused [ruleD k bs ss, .tup [.int 1, .int 2], .lst [cellP c], .lst [.lst [], .lst []]] = .ok (.lst [.bl false, .bl true, .bl true]) [] := refused_out (none_out k bs ss size12 (live := [c]) (by rw [List.all_cons, hc]; rfl) _)
  generalize cellP c = CD at *
  clear hP
  unfold f_law b_law
  simp! [ruleD] at e e1 r1 r2 ⊢
  simp! [pen_is, draw_is, hp, e1, h5, dp, e2, ec, r1, q2, e3, zeD, e4, eA, r2, q3, hmax, hr1, hrM, hz2, e]


theorem all_mk {l : PySem.W.OpenLaw} {w : World} {K : PySem.W.Frag} {h : Heap} {mg : Str → Option Value} {fa : Addr} (X : K.In h) (G : h.Ns mainGlobals mg) (hfa : mg "law" = some (.ref fa))
    {f0 : Addr} {od0 an0 : Option Addr} {sl0 : Array (Option Value)} {oc0 kV0 dc0 pm0 cd0 ct0 : Value}
    {f1 : Addr} {od1 an1 : Option Addr} {sl1 : Array (Option Value)} {oc1 kV1 dc1 pm1 cd1 ct1 : Value}
    {f2 : Addr} {od2 an2 : Option Addr} {sl2 : Array (Option Value)} {oc2 kV2 dc2 pm2 cd2 ct2 : Value}
    {f3 : Addr} {od3 an3 : Option Addr} {sl3 : Array (Option Value)} {oc3 kV3 dc3 pm3 cd3 ct3 : Value}
    {f4 : Addr} {od4 an4 : Option Addr} {sl4 : Array (Option Value)} {oc4 kV4 dc4 pm4 cd4 ct4 : Value}
    {f5 : Addr} {od5 an5 : Option Addr} {sl5 : Array (Option Value)} {oc5 kV5 dc5 pm5 cd5 ct5 : Value}
    {f6 : Addr} {od6 an6 : Option Addr} {sl6 : Array (Option Value)} {oc6 kV6 dc6 pm6 cd6 ct6 : Value}
    {f7 : Addr} {od7 an7 : Option Addr} {sl7 : Array (Option Value)} {oc7 kV7 dc7 pm7 cd7 ct7 : Value}
    {f8 : Addr} {od8 an8 : Option Addr} {sl8 : Array (Option Value)} {oc8 kV8 dc8 pm8 cd8 ct8 : Value}
    {f9 : Addr} {od9 an9 : Option Addr} {sl9 : Array (Option Value)} {oc9 kV9 dc9 pm9 cd9 ct9 : Value}
    {f10 : Addr} {od10 an10 : Option Addr} {sl10 : Array (Option Value)} {oc10 kV10 dc10 pm10 cd10 ct10 : Value}
    {f11 : Addr} {od11 an11 : Option Addr} {sl11 : Array (Option Value)} {oc11 kV11 dc11 pm11 cd11 ct11 : Value}
    {f12 : Addr} {od12 an12 : Option Addr} {sl12 : Array (Option Value)} {oc12 kV12 dc12 pm12 cd12 ct12 : Value}
    {f13 : Addr} {od13 an13 : Option Addr} {sl13 : Array (Option Value)} {oc13 kV13 dc13 pm13 cd13 ct13 : Value}
    {f14 : Addr} {od14 an14 : Option Addr} {sl14 : Array (Option Value)} {oc14 kV14 dc14 pm14 cd14 ct14 : Value}
    {f15 : Addr} {od15 an15 : Option Addr} {sl15 : Array (Option Value)} {oc15 kV15 dc15 pm15 cd15 ct15 : Value}
    {f16 : Addr} {od16 an16 : Option Addr} {sl16 : Array (Option Value)} {oc16 kV16 dc16 pm16 cd16 ct16 : Value}
    {f17 : Addr} {od17 an17 : Option Addr} {sl17 : Array (Option Value)} {oc17 kV17 dc17 pm17 cd17 ct17 : Value}
    {f18 : Addr} {od18 an18 : Option Addr} {sl18 : Array (Option Value)} {oc18 kV18 dc18 pm18 cd18 ct18 : Value}
    {f19 : Addr} {od19 an19 : Option Addr} {sl19 : Array (Option Value)} {oc19 kV19 dc19 pm19 cd19 ct19 : Value}
    {f20 : Addr} {od20 an20 : Option Addr} {sl20 : Array (Option Value)} {oc20 kV20 dc20 pm20 cd20 ct20 : Value}
    {f21 : Addr} {od21 an21 : Option Addr} {sl21 : Array (Option Value)} {oc21 kV21 dc21 pm21 cd21 ct21 : Value}
    {f22 : Addr} {od22 an22 : Option Addr} {sl22 : Array (Option Value)} {oc22 kV22 dc22 pm22 cd22 ct22 : Value}
    {f23 : Addr} {od23 an23 : Option Addr} {sl23 : Array (Option Value)} {oc23 kV23 dc23 pm23 cd23 ct23 : Value}
    {f24 : Addr} {od24 an24 : Option Addr} {sl24 : Array (Option Value)} {oc24 kV24 dc24 pm24 cd24 ct24 : Value}
    {f25 : Addr} {od25 an25 : Option Addr} {sl25 : Array (Option Value)} {oc25 kV25 dc25 pm25 cd25 ct25 : Value}
    {f26 : Addr} {od26 an26 : Option Addr} {sl26 : Array (Option Value)} {oc26 kV26 dc26 pm26 cd26 ct26 : Value}
    {f27 : Addr} {od27 an27 : Option Addr} {sl27 : Array (Option Value)} {oc27 kV27 dc27 pm27 cd27 ct27 : Value}
    {f28 : Addr} {od28 an28 : Option Addr} {sl28 : Array (Option Value)} {oc28 kV28 dc28 pm28 cd28 ct28 : Value}
    {f29 : Addr} {od29 an29 : Option Addr} {sl29 : Array (Option Value)} {oc29 kV29 dc29 pm29 cd29 ct29 : Value}
    {f30 : Addr} {od30 an30 : Option Addr} {sl30 : Array (Option Value)} {oc30 kV30 dc30 pm30 cd30 ct30 : Value}
    {f31 : Addr} {od31 an31 : Option Addr} {sl31 : Array (Option Value)} {oc31 kV31 dc31 pm31 cd31 ct31 : Value}
    {f32 : Addr} {od32 an32 : Option Addr} {sl32 : Array (Option Value)} {oc32 kV32 dc32 pm32 cd32 ct32 : Value}
    {f33 : Addr} {od33 an33 : Option Addr} {sl33 : Array (Option Value)} {oc33 kV33 dc33 pm33 cd33 ct33 : Value}
    {f34 : Addr} {od34 an34 : Option Addr} {sl34 : Array (Option Value)} {oc34 kV34 dc34 pm34 cd34 ct34 : Value}
    {f35 : Addr} {od35 an35 : Option Addr} {sl35 : Array (Option Value)} {oc35 kV35 dc35 pm35 cd35 ct35 : Value}
    {f36 : Addr} {od36 an36 : Option Addr} {sl36 : Array (Option Value)} {oc36 kV36 dc36 pm36 cd36 ct36 : Value}
    {f37 : Addr} {od37 an37 : Option Addr} {sl37 : Array (Option Value)} {oc37 kV37 dc37 pm37 cd37 ct37 : Value}
    {f38 : Addr} {od38 an38 : Option Addr} {sl38 : Array (Option Value)} {oc38 kV38 dc38 pm38 cd38 ct38 : Value}
    {c_NoSize : Addr}
    {c_Outside : Addr}
    {c_CellError : Addr}
    {c_Triples : Addr}
    {t_MOST_CELLS : Tok}
    {t_WIDEST : Tok}
    {t_HIGHEST : Tok}
    (g_Triples : PySem.W.nsIn K mainGlobals "Triples" = some (some (.ref c_Triples)))
    (pg_Triples : PySem.W.plainGet K c_Triples Str.empty = true)
    (hd_Triples : PySem.W.hasDictIn K c_Triples = true)
    (po_Triples : PySem.W.plainOver K c_Triples = true)
    (sa_Triples : PySem.W.findIn K (.ref c_Triples) "__setattr__" = some (some (.builtin "object.__setattr__")))
    (mk_Triples : PySem.W.makesIn K c_Triples = true)
    (kc_Triples : PySem.W.keepIn K (.ref c_Triples) = true)
    (na_Triples_by_rule : PySem.W.findIn K (.ref c_Triples) "by_rule" = some none)
    (na_Triples_looked : PySem.W.findIn K (.ref c_Triples) "looked" = some none)
    (na_Triples_tables : PySem.W.findIn K (.ref c_Triples) "tables" = some none)
    (a0 : PySem.W.nsIn K mainGlobals "_wall" = some (some (.ref f0)))
    (l0 : K.lookup f0 = some ⟨oc0, od0, .func (PySem.W.fnOf "_wall" "_wall" (defArgs s_wall) (defBody s_wall) (defScope s_wall) .none kV0 dc0 pm0 an0 cd0 ct0), sl0⟩)
    (c0 : PySem.W.codeIn K cd0 "_wall" = true)
    (k0 : PySem.W.keepIn K (.ref f0) = true)
    (a1 : PySem.W.nsIn K mainGlobals "is_whole" = some (some (.ref f1)))
    (l1 : K.lookup f1 = some ⟨oc1, od1, .func (PySem.W.fnOf "is_whole" "is_whole" (defArgs s_is_whole) (defBody s_is_whole) (defScope s_is_whole) .none kV1 dc1 pm1 an1 cd1 ct1), sl1⟩)
    (c1 : PySem.W.codeIn K cd1 "is_whole" = true)
    (k1 : PySem.W.keepIn K (.ref f1) = true)
    (a2 : PySem.W.nsIn K mainGlobals "is_near" = some (some (.ref f2)))
    (l2 : K.lookup f2 = some ⟨oc2, od2, .func (PySem.W.fnOf "is_near" "is_near" (defArgs s_is_near) (defBody s_is_near) (defScope s_is_near) .none kV2 dc2 pm2 an2 cd2 ct2), sl2⟩)
    (c2 : PySem.W.codeIn K cd2 "is_near" = true)
    (k2 : PySem.W.keepIn K (.ref f2) = true)
    (a3 : PySem.W.nsIn K mainGlobals "offsets" = some (some (.ref f3)))
    (l3 : K.lookup f3 = some ⟨oc3, od3, .func (PySem.W.fnOf "offsets" "offsets" (defArgs s_offsets) (defBody s_offsets) (defScope s_offsets) .none kV3 dc3 pm3 an3 cd3 ct3), sl3⟩)
    (c3 : PySem.W.codeIn K cd3 "offsets" = true)
    (k3 : PySem.W.keepIn K (.ref f3) = true)
    (a4 : PySem.W.nsIn K mainGlobals "around" = some (some (.ref f4)))
    (l4 : K.lookup f4 = some ⟨oc4, od4, .func (PySem.W.fnOf "around" "around" (defArgs s_around) (defBody s_around) (defScope s_around) .none kV4 dc4 pm4 an4 cd4 ct4), sl4⟩)
    (c4 : PySem.W.codeIn K cd4 "around" = true)
    (k4 : PySem.W.keepIn K (.ref f4) = true)
    (a5 : PySem.W.nsIn K mainGlobals "comes" = some (some (.ref f5)))
    (l5 : K.lookup f5 = some ⟨oc5, od5, .func (PySem.W.fnOf "comes" "comes" (defArgs s_comes) (defBody s_comes) (defScope s_comes) .none kV5 dc5 pm5 an5 cd5 ct5), sl5⟩)
    (c5 : PySem.W.codeIn K cd5 "comes" = true)
    (k5 : PySem.W.keepIn K (.ref f5) = true)
    (a6 : PySem.W.nsIn K mainGlobals "has_column" = some (some (.ref f6)))
    (l6 : K.lookup f6 = some ⟨oc6, od6, .func (PySem.W.fnOf "has_column" "has_column" (defArgs s_has_column) (defBody s_has_column) (defScope s_has_column) .none kV6 dc6 pm6 an6 cd6 ct6), sl6⟩)
    (c6 : PySem.W.codeIn K cd6 "has_column" = true)
    (k6 : PySem.W.keepIn K (.ref f6) = true)
    (a7 : PySem.W.nsIn K mainGlobals "rows_of" = some (some (.ref f7)))
    (l7 : K.lookup f7 = some ⟨oc7, od7, .func (PySem.W.fnOf "rows_of" "rows_of" (defArgs s_rows_of) (defBody s_rows_of) (defScope s_rows_of) .none kV7 dc7 pm7 an7 cd7 ct7), sl7⟩)
    (c7 : PySem.W.codeIn K cd7 "rows_of" = true)
    (k7 : PySem.W.keepIn K (.ref f7) = true)
    (a8 : PySem.W.nsIn K mainGlobals "neighbours_in" = some (some (.ref f8)))
    (l8 : K.lookup f8 = some ⟨oc8, od8, .func (PySem.W.fnOf "neighbours_in" "neighbours_in" (defArgs s_neighbours_in) (defBody s_neighbours_in) (defScope s_neighbours_in) .none kV8 dc8 pm8 an8 cd8 ct8), sl8⟩)
    (c8 : PySem.W.codeIn K cd8 "neighbours_in" = true)
    (k8 : PySem.W.keepIn K (.ref f8) = true)
    (a9 : PySem.W.findIn K (.ref c_Triples) "__init__" = some (some (.ref f9)))
    (i9 : PySem.W.isFn K (.ref f9) = true)
    (l9 : K.lookup f9 = some ⟨oc9, od9, .func (PySem.W.fnOf "__init__" "Triples.__init__" (defArgs s_Triples___init) (defBody s_Triples___init) (defScope s_Triples___init) .none kV9 dc9 pm9 an9 cd9 ct9), sl9⟩)
    (c9 : PySem.W.codeIn K cd9 "Triples.__init__" = true)
    (k9 : PySem.W.keepIn K (.ref f9) = true)
    (a10 : PySem.W.findIn K (.ref c_Triples) "many_rows" = some (some (.ref f10)))
    (i10 : PySem.W.isFn K (.ref f10) = true)
    (l10 : K.lookup f10 = some ⟨oc10, od10, .func (PySem.W.fnOf "many_rows" "Triples.many_rows" (defArgs s_Triples_many_rows) (defBody s_Triples_many_rows) (defScope s_Triples_many_rows) .none kV10 dc10 pm10 an10 cd10 ct10), sl10⟩)
    (c10 : PySem.W.codeIn K cd10 "Triples.many_rows" = true)
    (k10 : PySem.W.keepIn K (.ref f10) = true)
    (a11 : PySem.W.findIn K (.ref c_Triples) "are_shown" = some (some (.ref f11)))
    (i11 : PySem.W.isFn K (.ref f11) = true)
    (l11 : K.lookup f11 = some ⟨oc11, od11, .func (PySem.W.fnOf "are_shown" "Triples.are_shown" (defArgs s_Triples_are_shown) (defBody s_Triples_are_shown) (defScope s_Triples_are_shown) .none kV11 dc11 pm11 an11 cd11 ct11), sl11⟩)
    (c11 : PySem.W.codeIn K cd11 "Triples.are_shown" = true)
    (k11 : PySem.W.keepIn K (.ref f11) = true)
    (a12 : PySem.W.findIn K (.ref c_Triples) "open_counts" = some (some (.ref f12)))
    (i12 : PySem.W.isFn K (.ref f12) = true)
    (l12 : K.lookup f12 = some ⟨oc12, od12, .func (PySem.W.fnOf "open_counts" "Triples.open_counts" (defArgs s_Triples_open_counts) (defBody s_Triples_open_counts) (defScope s_Triples_open_counts) .none kV12 dc12 pm12 an12 cd12 ct12), sl12⟩)
    (c12 : PySem.W.codeIn K cd12 "Triples.open_counts" = true)
    (k12 : PySem.W.keepIn K (.ref f12) = true)
    (a13 : PySem.W.findIn K (.ref c_Triples) "fitting" = some (some (.ref f13)))
    (i13 : PySem.W.isFn K (.ref f13) = true)
    (l13 : K.lookup f13 = some ⟨oc13, od13, .func (PySem.W.fnOf "fitting" "Triples.fitting" (defArgs s_Triples_fitting) (defBody s_Triples_fitting) (defScope s_Triples_fitting) .none kV13 dc13 pm13 an13 cd13 ct13), sl13⟩)
    (c13 : PySem.W.codeIn K cd13 "Triples.fitting" = true)
    (k13 : PySem.W.keepIn K (.ref f13) = true)
    (a14 : PySem.W.findIn K (.ref c_Triples) "above" = some (some (.ref f14)))
    (i14 : PySem.W.isFn K (.ref f14) = true)
    (l14 : K.lookup f14 = some ⟨oc14, od14, .func (PySem.W.fnOf "above" "Triples.above" (defArgs s_Triples_above) (defBody s_Triples_above) (defScope s_Triples_above) .none kV14 dc14 pm14 an14 cd14 ct14), sl14⟩)
    (c14 : PySem.W.codeIn K cd14 "Triples.above" = true)
    (k14 : PySem.W.keepIn K (.ref f14) = true)
    (a15 : PySem.W.findIn K (.ref c_Triples) "below" = some (some (.ref f15)))
    (i15 : PySem.W.isFn K (.ref f15) = true)
    (l15 : K.lookup f15 = some ⟨oc15, od15, .func (PySem.W.fnOf "below" "Triples.below" (defArgs s_Triples_below) (defBody s_Triples_below) (defScope s_Triples_below) .none kV15 dc15 pm15 an15 cd15 ct15), sl15⟩)
    (c15 : PySem.W.codeIn K cd15 "Triples.below" = true)
    (k15 : PySem.W.keepIn K (.ref f15) = true)
    (a16 : PySem.W.nsIn K mainGlobals "ask_father_box" = some (some (.ref f16)))
    (l16 : K.lookup f16 = some ⟨oc16, od16, .func (PySem.W.fnOf "ask_father_box" "ask_father_box" (defArgs s_ask_father_box) (defBody s_ask_father_box) (defScope s_ask_father_box) .none kV16 dc16 pm16 an16 cd16 ct16), sl16⟩)
    (c16 : PySem.W.codeIn K cd16 "ask_father_box" = true)
    (k16 : PySem.W.keepIn K (.ref f16) = true)
    (a17 : PySem.W.nsIn K mainGlobals "first_layer" = some (some (.ref f17)))
    (l17 : K.lookup f17 = some ⟨oc17, od17, .func (PySem.W.fnOf "first_layer" "first_layer" (defArgs s_first_layer) (defBody s_first_layer) (defScope s_first_layer) .none kV17 dc17 pm17 an17 cd17 ct17), sl17⟩)
    (c17 : PySem.W.codeIn K cd17 "first_layer" = true)
    (k17 : PySem.W.keepIn K (.ref f17) = true)
    (a18 : PySem.W.nsIn K mainGlobals "next_layer" = some (some (.ref f18)))
    (l18 : K.lookup f18 = some ⟨oc18, od18, .func (PySem.W.fnOf "next_layer" "next_layer" (defArgs s_next_layer) (defBody s_next_layer) (defScope s_next_layer) .none kV18 dc18 pm18 an18 cd18 ct18), sl18⟩)
    (c18 : PySem.W.codeIn K cd18 "next_layer" = true)
    (k18 : PySem.W.keepIn K (.ref f18) = true)
    (a19 : PySem.W.nsIn K mainGlobals "rim_rows" = some (some (.ref f19)))
    (l19 : K.lookup f19 = some ⟨oc19, od19, .func (PySem.W.fnOf "rim_rows" "rim_rows" (defArgs s_rim_rows) (defBody s_rim_rows) (defScope s_rim_rows) .none kV19 dc19 pm19 an19 cd19 ct19), sl19⟩)
    (c19 : PySem.W.codeIn K cd19 "rim_rows" = true)
    (k19 : PySem.W.keepIn K (.ref f19) = true)
    (a20 : PySem.W.nsIn K mainGlobals "are_all_in" = some (some (.ref f20)))
    (l20 : K.lookup f20 = some ⟨oc20, od20, .func (PySem.W.fnOf "are_all_in" "are_all_in" (defArgs s_are_all_in) (defBody s_are_all_in) (defScope s_are_all_in) .none kV20 dc20 pm20 an20 cd20 ct20), sl20⟩)
    (c20 : PySem.W.codeIn K cd20 "are_all_in" = true)
    (k20 : PySem.W.keepIn K (.ref f20) = true)
    (a21 : PySem.W.nsIn K mainGlobals "holds_none" = some (some (.ref f21)))
    (l21 : K.lookup f21 = some ⟨oc21, od21, .func (PySem.W.fnOf "holds_none" "holds_none" (defArgs s_holds_none) (defBody s_holds_none) (defScope s_holds_none) .none kV21 dc21 pm21 an21 cd21 ct21), sl21⟩)
    (c21 : PySem.W.codeIn K cd21 "holds_none" = true)
    (k21 : PySem.W.keepIn K (.ref f21) = true)
    (a22 : PySem.W.nsIn K mainGlobals "_law_pen" = some (some (.ref f22)))
    (l22 : K.lookup f22 = some ⟨oc22, od22, .func (PySem.W.fnOf "_law_pen" "_law_pen" (defArgs s_law_pen) (defBody s_law_pen) (defScope s_law_pen) .none kV22 dc22 pm22 an22 cd22 ct22), sl22⟩)
    (c22 : PySem.W.codeIn K cd22 "_law_pen" = true)
    (k22 : PySem.W.keepIn K (.ref f22) = true)
    (a23 : PySem.W.nsIn K mainGlobals "_law_draw" = some (some (.ref f23)))
    (l23 : K.lookup f23 = some ⟨oc23, od23, .func (PySem.W.fnOf "_law_draw" "_law_draw" (defArgs s_law_draw) (defBody s_law_draw) (defScope s_law_draw) .none kV23 dc23 pm23 an23 cd23 ct23), sl23⟩)
    (c23 : PySem.W.codeIn K cd23 "_law_draw" = true)
    (k23 : PySem.W.keepIn K (.ref f23) = true)
    (a24 : PySem.W.nsIn K mainGlobals "_law_some" = some (some (.ref f24)))
    (l24 : K.lookup f24 = some ⟨oc24, od24, .func (PySem.W.fnOf "_law_some" "_law_some" (defArgs s_law_some) (defBody s_law_some) (defScope s_law_some) .none kV24 dc24 pm24 an24 cd24 ct24), sl24⟩)
    (c24 : PySem.W.codeIn K cd24 "_law_some" = true)
    (k24 : PySem.W.keepIn K (.ref f24) = true)
    (a25 : PySem.W.nsIn K mainGlobals "_law_rule" = some (some (.ref f25)))
    (l25 : K.lookup f25 = some ⟨oc25, od25, .func (PySem.W.fnOf "_law_rule" "_law_rule" (defArgs s_law_rule) (defBody s_law_rule) (defScope s_law_rule) .none kV25 dc25 pm25 an25 cd25 ct25), sl25⟩)
    (c25 : PySem.W.codeIn K cd25 "_law_rule" = true)
    (k25 : PySem.W.keepIn K (.ref f25) = true)
    (a26 : PySem.W.nsIn K mainGlobals "_law_near" = some (some (.ref f26)))
    (l26 : K.lookup f26 = some ⟨oc26, od26, .func (PySem.W.fnOf "_law_near" "_law_near" (defArgs s_law_near) (defBody s_law_near) (defScope s_law_near) .none kV26 dc26 pm26 an26 cd26 ct26), sl26⟩)
    (c26 : PySem.W.codeIn K cd26 "_law_near" = true)
    (k26 : PySem.W.keepIn K (.ref f26) = true)
    (a27 : PySem.W.nsIn K mainGlobals "_law_table" = some (some (.ref f27)))
    (l27 : K.lookup f27 = some ⟨oc27, od27, .func (PySem.W.fnOf "_law_table" "_law_table" (defArgs s_law_table) (defBody s_law_table) (defScope s_law_table) .none kV27 dc27 pm27 an27 cd27 ct27), sl27⟩)
    (c27 : PySem.W.codeIn K cd27 "_law_table" = true)
    (k27 : PySem.W.keepIn K (.ref f27) = true)
    (a28 : PySem.W.nsIn K mainGlobals "_law_allowed" = some (some (.ref f28)))
    (l28 : K.lookup f28 = some ⟨oc28, od28, .func (PySem.W.fnOf "_law_allowed" "_law_allowed" (defArgs s_law_allowed) (defBody s_law_allowed) (defScope s_law_allowed) .none kV28 dc28 pm28 an28 cd28 ct28), sl28⟩)
    (c28 : PySem.W.codeIn K cd28 "_law_allowed" = true)
    (k28 : PySem.W.keepIn K (.ref f28) = true)
    (a29 : PySem.W.nsIn K mainGlobals "_law_below" = some (some (.ref f29)))
    (l29 : K.lookup f29 = some ⟨oc29, od29, .func (PySem.W.fnOf "_law_below" "_law_below" (defArgs s_law_below) (defBody s_law_below) (defScope s_law_below) .none kV29 dc29 pm29 an29 cd29 ct29), sl29⟩)
    (c29 : PySem.W.codeIn K cd29 "_law_below" = true)
    (k29 : PySem.W.keepIn K (.ref f29) = true)
    (a30 : PySem.W.nsIn K mainGlobals "_law_every" = some (some (.ref f30)))
    (l30 : K.lookup f30 = some ⟨oc30, od30, .func (PySem.W.fnOf "_law_every" "_law_every" (defArgs s_law_every) (defBody s_law_every) (defScope s_law_every) .none kV30 dc30 pm30 an30 cd30 ct30), sl30⟩)
    (c30 : PySem.W.codeIn K cd30 "_law_every" = true)
    (k30 : PySem.W.keepIn K (.ref f30) = true)
    (a31 : PySem.W.nsIn K mainGlobals "_law_is_paper" = some (some (.ref f31)))
    (l31 : K.lookup f31 = some ⟨oc31, od31, .func (PySem.W.fnOf "_law_is_paper" "_law_is_paper" (defArgs s_law_is_paper) (defBody s_law_is_paper) (defScope s_law_is_paper) .none kV31 dc31 pm31 an31 cd31 ct31), sl31⟩)
    (c31 : PySem.W.codeIn K cd31 "_law_is_paper" = true)
    (k31 : PySem.W.keepIn K (.ref f31) = true)
    (a32 : PySem.W.nsIn K mainGlobals "_law_size" = some (some (.ref f32)))
    (l32 : K.lookup f32 = some ⟨oc32, od32, .func (PySem.W.fnOf "_law_size" "_law_size" (defArgs s_law_size) (defBody s_law_size) (defScope s_law_size) .none kV32 dc32 pm32 an32 cd32 ct32), sl32⟩)
    (c32 : PySem.W.codeIn K cd32 "_law_size" = true)
    (k32 : PySem.W.keepIn K (.ref f32) = true)
    (a33 : PySem.W.nsIn K mainGlobals "_law_picture" = some (some (.ref f33)))
    (l33 : K.lookup f33 = some ⟨oc33, od33, .func (PySem.W.fnOf "_law_picture" "_law_picture" (defArgs s_law_picture) (defBody s_law_picture) (defScope s_law_picture) .none kV33 dc33 pm33 an33 cd33 ct33), sl33⟩)
    (c33 : PySem.W.codeIn K cd33 "_law_picture" = true)
    (k33 : PySem.W.keepIn K (.ref f33) = true)
    (a34 : PySem.W.nsIn K mainGlobals "_law_least" = some (some (.ref f34)))
    (l34 : K.lookup f34 = some ⟨oc34, od34, .func (PySem.W.fnOf "_law_least" "_law_least" (defArgs s_law_least) (defBody s_law_least) (defScope s_law_least) .none kV34 dc34 pm34 an34 cd34 ct34), sl34⟩)
    (c34 : PySem.W.codeIn K cd34 "_law_least" = true)
    (k34 : PySem.W.keepIn K (.ref f34) = true)
    (a35 : PySem.W.nsIn K mainGlobals "_law_bent" = some (some (.ref f35)))
    (l35 : K.lookup f35 = some ⟨oc35, od35, .func (PySem.W.fnOf "_law_bent" "_law_bent" (defArgs s_law_bent) (defBody s_law_bent) (defScope s_law_bent) .none kV35 dc35 pm35 an35 cd35 ct35), sl35⟩)
    (c35 : PySem.W.codeIn K cd35 "_law_bent" = true)
    (k35 : PySem.W.keepIn K (.ref f35) = true)
    (a36 : PySem.W.nsIn K mainGlobals "_law_bad" = some (some (.ref f36)))
    (l36 : K.lookup f36 = some ⟨oc36, od36, .func (PySem.W.fnOf "_law_bad" "_law_bad" (defArgs s_law_bad) (defBody s_law_bad) (defScope s_law_bad) .none kV36 dc36 pm36 an36 cd36 ct36), sl36⟩)
    (c36 : PySem.W.codeIn K cd36 "_law_bad" = true)
    (k36 : PySem.W.keepIn K (.ref f36) = true)
    (a37 : PySem.W.nsIn K mainGlobals "_law_refused" = some (some (.ref f37)))
    (l37 : K.lookup f37 = some ⟨oc37, od37, .func (PySem.W.fnOf "_law_refused" "_law_refused" (defArgs s_law_refused) (defBody s_law_refused) (defScope s_law_refused) .none kV37 dc37 pm37 an37 cd37 ct37), sl37⟩)
    (c37 : PySem.W.codeIn K cd37 "_law_refused" = true)
    (k37 : PySem.W.keepIn K (.ref f37) = true)
    (a38 : PySem.W.nsIn K mainGlobals "law" = some (some (.ref f38)))
    (l38 : K.lookup f38 = some ⟨oc38, od38, .func (PySem.W.fnOf "law" "law" (defArgs s_law) (defBody s_law) (defScope s_law) .none kV38 dc38 pm38 an38 cd38 ct38), sl38⟩)
    (c38 : PySem.W.codeIn K cd38 "law" = true)
    (k38 : PySem.W.keepIn K (.ref f38) = true)
    (z0 : PySem.W.nsIn K mainGlobals "ValueError" = some none)
    (z1 : PySem.W.nsIn K mainGlobals "all" = some none)
    (z2 : PySem.W.nsIn K mainGlobals "bool" = some none)
    (z3 : PySem.W.nsIn K mainGlobals "enumerate" = some none)
    (z4 : PySem.W.nsIn K mainGlobals "int" = some none)
    (z5 : PySem.W.nsIn K mainGlobals "isinstance" = some none)
    (z6 : PySem.W.nsIn K mainGlobals "len" = some none)
    (z7 : PySem.W.nsIn K mainGlobals "list" = some none)
    (z8 : PySem.W.nsIn K mainGlobals "max" = some none)
    (z9 : PySem.W.nsIn K mainGlobals "min" = some none)
    (z10 : PySem.W.nsIn K mainGlobals "range" = some none)
    (z11 : PySem.W.nsIn K mainGlobals "reversed" = some none)
    (z12 : PySem.W.nsIn K mainGlobals "tuple" = some none)
    (z13 : PySem.W.nsIn K mainGlobals "zip" = some none)
    (n_MOST_CELLS : PySem.W.nsIn K mainGlobals "MOST_CELLS" = some (some (.int 9 t_MOST_CELLS)))
    (n_WIDEST : PySem.W.nsIn K mainGlobals "WIDEST" = some (some (.int 3 t_WIDEST)))
    (n_HIGHEST : PySem.W.nsIn K mainGlobals "HIGHEST" = some (some (.int 6 t_HIGHEST)))
    (g_NoSize : PySem.W.nsIn K mainGlobals "NoSize" = some (some (.ref c_NoSize)))
    (i_NoSize : PySem.W.isClsIn K c_NoSize = true)
    (y_NoSize : PySem.W.typeIn K (.ref c_NoSize) = some (.type "type"))
    (s_NoSize : PySem.W.subIn K (.ref c_NoSize) (.ref c_NoSize) = some true)
    (b_NoSize : PySem.W.subIn K (.ref c_NoSize) (.type "BaseException") = some true)
    (g_Outside : PySem.W.nsIn K mainGlobals "Outside" = some (some (.ref c_Outside)))
    (i_Outside : PySem.W.isClsIn K c_Outside = true)
    (y_Outside : PySem.W.typeIn K (.ref c_Outside) = some (.type "type"))
    (s_Outside : PySem.W.subIn K (.ref c_Outside) (.ref c_Outside) = some true)
    (b_Outside : PySem.W.subIn K (.ref c_Outside) (.type "BaseException") = some true)
    (g_CellError : PySem.W.nsIn K mainGlobals "CellError" = some (some (.ref c_CellError)))
    (i_CellError : PySem.W.isClsIn K c_CellError = true)
    (y_CellError : PySem.W.typeIn K (.ref c_CellError) = some (.type "type"))
    (s_CellError : PySem.W.subIn K (.ref c_CellError) (.ref c_CellError) = some true)
    (b_CellError : PySem.W.subIn K (.ref c_CellError) (.type "BaseException") = some true)
    (x_NoSize : PySem.W.excIn K c_NoSize [.type "ValueError", .type "Exception", .type "BaseException", .type "object"] "ValueError.__new__" = true)
    (k_NoSize : PySem.W.keepIn K (.ref c_NoSize) = true)
    (e1_NoSize : PySem.W.findIn K (.ref c_NoSize) "__getattribute__" = some (some (.builtin "BaseException.__getattribute__")))
    (e2_NoSize : PySem.W.findIn K (.ref c_NoSize) "__getattr__" = some none)
    (e4_NoSize : PySem.W.hasDictIn K c_NoSize = true)
    (e5_NoSize : PySem.W.findIn K (.ref c_NoSize) "__class__" = some (some (.builtin "object.__class__")))
    (e8_NoSize : PySem.W.mroIn K c_NoSize (.type "object") = some true)
    (x_Outside : PySem.W.excIn K c_Outside [.type "ValueError", .type "Exception", .type "BaseException", .type "object"] "ValueError.__new__" = true)
    (k_Outside : PySem.W.keepIn K (.ref c_Outside) = true)
    (e1_Outside : PySem.W.findIn K (.ref c_Outside) "__getattribute__" = some (some (.builtin "BaseException.__getattribute__")))
    (e2_Outside : PySem.W.findIn K (.ref c_Outside) "__getattr__" = some none)
    (e4_Outside : PySem.W.hasDictIn K c_Outside = true)
    (e5_Outside : PySem.W.findIn K (.ref c_Outside) "__class__" = some (some (.builtin "object.__class__")))
    (e8_Outside : PySem.W.mroIn K c_Outside (.type "object") = some true)
    (e6 : PySem.W.specialIn K (.builtin "object.__class__") "__get__" = some (some (.builtin "getset_descriptor.__get__")))
    (e7 : PySem.W.takesIn K (.builtin "object.__class__") = some true)
    (u_NoSize : PySem.W.subIn K (.type "NoneType") (.ref c_NoSize) = some false)
    (u_Outside : PySem.W.subIn K (.type "NoneType") (.ref c_Outside) = some false)
    (p_NoSize_NoSize : PySem.W.subIn K (.ref c_NoSize) (.ref c_NoSize) = some true)
    (p_NoSize_Outside : PySem.W.subIn K (.ref c_NoSize) (.ref c_Outside) = some false)
    (p_NoSize_CellError : PySem.W.subIn K (.ref c_NoSize) (.ref c_CellError) = some true)
    (p_NoSize_ValueError : PySem.W.subIn K (.ref c_NoSize) (.type "ValueError") = some true)
    (p_Outside_NoSize : PySem.W.subIn K (.ref c_Outside) (.ref c_NoSize) = some false)
    (p_Outside_Outside : PySem.W.subIn K (.ref c_Outside) (.ref c_Outside) = some true)
    (p_Outside_CellError : PySem.W.subIn K (.ref c_Outside) (.ref c_CellError) = some true)
    (p_Outside_ValueError : PySem.W.subIn K (.ref c_Outside) (.type "ValueError") = some true)
    : ∃ fd : FuncData, (∀ (s : Shared) (v : Value), BindsTo s fd ⟨[v], []⟩ [("_law_script", v)]) ∧ ∀ base : Heap, K.In base → base.Ns mainGlobals mg → FnOk l.prog w K mg base (L2.CX l.prog w) 8 fa fd ["_law_script"] (spA K f_law) := by
  have e := hfa.symm.trans (PySem.W.mg_of X G a38)
  cases e
  have F0 := fun_mk (st := s_wall) l0 c0 k0
  have B0 := F0.binds (ps := ["k"]) fun _ _ _ _ _ _ us hl => match us, hl with | [_], _ => rfl
  have F1 := fun_mk (st := s_is_whole) l1 c1 k1
  have B1 := F1.binds (ps := ["thing"]) fun _ _ _ _ _ _ us hl => match us, hl with | [_], _ => rfl
  have F2 := fun_mk (st := s_is_near) l2 c2 k2
  have B2 := F2.binds (ps := ["kind", "dx", "dy"]) fun _ _ _ _ _ _ us hl => match us, hl with | [_, _, _], _ => rfl
  have F3 := fun_mk (st := s_offsets) l3 c3 k3
  have B3 := F3.binds (ps := ["kind"]) fun _ _ _ _ _ _ us hl => match us, hl with | [_], _ => rfl
  have F4 := fun_mk (st := s_around) l4 c4 k4
  have B4 := F4.binds (ps := []) fun _ _ _ _ _ _ us hl => match us, hl with | [], _ => rfl
  have F5 := fun_mk (st := s_comes) l5 c5 k5
  have B5 := F5.binds (ps := ["told", "alive", "count"]) fun _ _ _ _ _ _ us hl => match us, hl with | [_, _, _], _ => rfl
  have F6 := fun_mk (st := s_has_column) l6 c6 k6
  have B6 := F6.binds (ps := ["row", "x"]) fun _ _ _ _ _ _ us hl => match us, hl with | [_, _], _ => rfl
  have F7 := fun_mk (st := s_rows_of) l7 c7 k7
  have B7 := F7.binds (ps := ["size", "live"]) fun _ _ _ _ _ _ us hl => match us, hl with | [_, _], _ => rfl
  have F8 := fun_mk (st := s_neighbours_in) l8 c8 k8
  have B8 := F8.binds (ps := ["kind", "wide", "looked", "step"]) fun _ _ _ _ _ _ us hl => match us, hl with | [_, _, _, _], _ => rfl
  have F9 := fun_mk (st := s_Triples___init) l9 c9 k9
  have B9 := F9.binds (ps := ["self", "told", "wide", "first", "last"]) fun _ _ _ _ _ _ us hl => match us, hl with | [_, _, _, _, _], _ => rfl
  have F10 := fun_mk (st := s_Triples_many_rows) l10 c10 k10
  have B10 := F10.binds (ps := ["self"]) fun _ _ _ _ _ _ us hl => match us, hl with | [_], _ => rfl
  have F11 := fun_mk (st := s_Triples_are_shown) l11 c11 k11
  have B11 := F11.binds (ps := ["self", "one", "two", "three", "due"]) fun _ _ _ _ _ _ us hl => match us, hl with | [_, _, _, _, _], _ => rfl
  have F12 := fun_mk (st := s_Triples_open_counts) l12 c12 k12
  have B12 := F12.binds (ps := ["self", "side", "two", "due"]) fun _ _ _ _ _ _ us hl => match us, hl with | [_, _, _, _], _ => rfl
  have F13 := fun_mk (st := s_Triples_fitting) l13 c13 k13
  have B13 := F13.binds (ps := ["self", "table", "wanted"]) fun _ _ _ _ _ _ us hl => match us, hl with | [_, _, _], _ => rfl
  have F14 := fun_mk (st := s_Triples_above) l14 c14 k14
  have B14 := F14.binds (ps := ["self", "two", "three", "due"]) fun _ _ _ _ _ _ us hl => match us, hl with | [_, _, _, _], _ => rfl
  have F15 := fun_mk (st := s_Triples_below) l15 c15 k15
  have B15 := F15.binds (ps := ["self", "one", "two", "due"]) fun _ _ _ _ _ _ us hl => match us, hl with | [_, _, _, _], _ => rfl
  have F16 := fun_mk (st := s_ask_father_box) l16 c16 k16
  have B16 := F16.binds (ps := ["size", "live"]) fun _ _ _ _ _ _ us hl => match us, hl with | [_, _], _ => rfl
  have F17 := fun_mk (st := s_first_layer) l17 c17 k17
  have B17 := F17.binds (ps := ["triples", "due"]) fun _ _ _ _ _ _ us hl => match us, hl with | [_, _], _ => rfl
  have F18 := fun_mk (st := s_next_layer) l18 c18 k18
  have B18 := F18.binds (ps := ["triples", "layer", "due"]) fun _ _ _ _ _ _ us hl => match us, hl with | [_, _, _], _ => rfl
  have F19 := fun_mk (st := s_rim_rows) l19 c19 k19
  have B19 := F19.binds (ps := ["size", "live"]) fun _ _ _ _ _ _ us hl => match us, hl with | [_, _], _ => rfl
  have F20 := fun_mk (st := s_are_all_in) l20 c20 k20
  have B20 := F20.binds (ps := ["layer", "some"]) fun _ _ _ _ _ _ us hl => match us, hl with | [_, _], _ => rfl
  have F21 := fun_mk (st := s_holds_none) l21 c21 k21
  have B21 := F21.binds (ps := ["told", "size", "live", "lists"]) fun _ _ _ _ _ _ us hl => match us, hl with | [_, _, _, _], _ => rfl
  have F22 := fun_mk (st := s_law_pen) l22 c22 k22
  have B22 := F22.binds (ps := ["_law_script", "_law_k"]) fun _ _ _ _ _ _ us hl => match us, hl with | [_, _], _ => rfl
  have F23 := fun_mk (st := s_law_draw) l23 c23 k23
  have B23 := F23.binds (ps := ["_law_pen_here", "_law_many"]) fun _ _ _ _ _ _ us hl => match us, hl with | [_, _], _ => rfl
  have F24 := fun_mk (st := s_law_some) l24 c24 k24
  have B24 := F24.binds (ps := ["_law_pen_here", "_law_kind"]) fun _ _ _ _ _ _ us hl => match us, hl with | [_, _], _ => rfl
  have F25 := fun_mk (st := s_law_rule) l25 c25 k25
  have B25 := F25.binds (ps := ["_law_pen_here"]) fun _ _ _ _ _ _ us hl => match us, hl with | [_], _ => rfl
  have F26 := fun_mk (st := s_law_near) l26 c26 k26
  have B26 := F26.binds (ps := ["_law_kind"]) fun _ _ _ _ _ _ us hl => match us, hl with | [_], _ => rfl
  have F27 := fun_mk (st := s_law_table) l27 c27 k27
  have B27 := F27.binds (ps := ["_law_code", "_law_wide", "_law_dy"]) fun _ _ _ _ _ _ us hl => match us, hl with | [_, _, _], _ => rfl
  have F28 := fun_mk (st := s_law_allowed) l28 c28 k28
  have B28 := F28.binds (ps := ["_law_code", "_law_tables", "_law_pair", "_law_x", "_law_due"]) fun _ _ _ _ _ _ us hl => match us, hl with | [_, _, _, _, _], _ => rfl
  have F29 := fun_mk (st := s_law_below) l29 c29 k29
  have B29 := F29.binds (ps := ["_law_code", "_law_tables", "_law_pairs", "_law_due"]) fun _ _ _ _ _ _ us hl => match us, hl with | [_, _, _, _], _ => rfl
  have F30 := fun_mk (st := s_law_every) l30 c30 k30
  have B30 := F30.binds (ps := ["_law_many"]) fun _ _ _ _ _ _ us hl => match us, hl with | [_], _ => rfl
  have F31 := fun_mk (st := s_law_is_paper) l31 c31 k31
  have B31 := F31.binds (ps := ["_law_code", "_law_size_here", "_law_live", "_law_lists"]) fun _ _ _ _ _ _ us hl => match us, hl with | [_, _, _, _], _ => rfl
  have F32 := fun_mk (st := s_law_size) l32 c32 k32
  have B32 := F32.binds (ps := ["_law_pen_here", "_law_at"]) fun _ _ _ _ _ _ us hl => match us, hl with | [_, _], _ => rfl
  have F33 := fun_mk (st := s_law_picture) l33 c33 k33
  have B33 := F33.binds (ps := ["_law_pen_here", "_law_size_here"]) fun _ _ _ _ _ _ us hl => match us, hl with | [_, _], _ => rfl
  have F34 := fun_mk (st := s_law_least) l34 c34 k34
  have B34 := F34.binds (ps := ["_law_code", "_law_size_here", "_law_live"]) fun _ _ _ _ _ _ us hl => match us, hl with | [_, _, _], _ => rfl
  have F35 := fun_mk (st := s_law_bent) l35 c35 k35
  have B35 := F35.binds (ps := ["_law_pen_here", "_law_lists", "_law_many"]) fun _ _ _ _ _ _ us hl => match us, hl with | [_, _, _], _ => rfl
  have F36 := fun_mk (st := s_law_bad) l36 c36 k36
  have B36 := F36.binds (ps := ["_law_pen_here"]) fun _ _ _ _ _ _ us hl => match us, hl with | [_], _ => rfl
  have F37 := fun_mk (st := s_law_refused) l37 c37 k37
  have B37 := F37.binds (ps := ["_law_code", "_law_size_here", "_law_live", "_law_lists"]) fun _ _ _ _ _ _ us hl => match us, hl with | [_, _, _, _], _ => rfl
  have F38 := fun_mk (st := s_law) l38 c38 k38
  have B38 := F38.binds (ps := ["_law_script"]) fun _ _ _ _ _ _ us hl => match us, hl with | [_], _ => rfl
  exact ⟨_, fun s v => .of_eq rfl, fun base _ _ => fnOk_A (cv := fun q => if q = "NoSize" then .ref c_NoSize else if q = "Outside" then .ref c_Outside else .none) (ok_law (A := ⟨f0, _, f1, _, f2, _, f3, _, f4, _, f5, _, f6, _, f7, _, f8, _, f9, _, f10, _, f11, _, f12, _, f13, _, f14, _, f15, _, f16, _, f17, _, f18, _, f19, _, f20, _, f21, _, f22, _, f23, _, f24, _, f25, _, f26, _, f27, _, f28, _, f29, _, f30, _, f31, _, f32, _, f33, _, f34, _, f35, _, f36, _, f37, _, fa, _, c_NoSize, c_Outside, c_CellError, c_Triples⟩) ⟨F0, B0, PySem.W.mg_of X G a0, F1, B1, PySem.W.mg_of X G a1, F2, B2, PySem.W.mg_of X G a2, F3, B3, PySem.W.mg_of X G a3, F4, B4, PySem.W.mg_of X G a4, F5, B5, PySem.W.mg_of X G a5, F6, B6, PySem.W.mg_of X G a6, F7, B7, PySem.W.mg_of X G a7, F8, B8, PySem.W.mg_of X G a8, F9, B9, F10, B10, F11, B11, F12, B12, F13, B13, F14, B14, F15, B15, F16, B16, PySem.W.mg_of X G a16, F17, B17, PySem.W.mg_of X G a17, F18, B18, PySem.W.mg_of X G a18, F19, B19, PySem.W.mg_of X G a19, F20, B20, PySem.W.mg_of X G a20, F21, B21, PySem.W.mg_of X G a21, F22, B22, PySem.W.mg_of X G a22, F23, B23, PySem.W.mg_of X G a23, F24, B24, PySem.W.mg_of X G a24, F25, B25, PySem.W.mg_of X G a25, F26, B26, PySem.W.mg_of X G a26, F27, B27, PySem.W.mg_of X G a27, F28, B28, PySem.W.mg_of X G a28, F29, B29, PySem.W.mg_of X G a29, F30, B30, PySem.W.mg_of X G a30, F31, B31, PySem.W.mg_of X G a31, F32, B32, PySem.W.mg_of X G a32, F33, B33, PySem.W.mg_of X G a33, F34, B34, PySem.W.mg_of X G a34, F35, B35, PySem.W.mg_of X G a35, F36, B36, PySem.W.mg_of X G a36, F37, B37, PySem.W.mg_of X G a37, F38, B38, PySem.W.mg_of X G a38, PySem.W.mg_of X G g_Triples, g_Triples, ⟨pg_Triples, hd_Triples, po_Triples, sa_Triples⟩, ⟨mk_Triples, a9, i9, kc_Triples⟩, ⟨a10, i10, k10⟩, ⟨a11, i11, k11⟩, ⟨a12, i12, k12⟩, ⟨a13, i13, k13⟩, ⟨a14, i14, k14⟩, ⟨a15, i15, k15⟩, na_Triples_by_rule, na_Triples_looked, na_Triples_tables, g_NoSize, g_Outside, u_NoSize, u_Outside, PySem.W.mg_none_of X G z0, PySem.W.mg_none_of X G z1, PySem.W.mg_none_of X G z2, PySem.W.mg_none_of X G z3, PySem.W.mg_none_of X G z4, PySem.W.mg_none_of X G z5, PySem.W.mg_none_of X G z6, PySem.W.mg_none_of X G z7, PySem.W.mg_none_of X G z8, PySem.W.mg_none_of X G z9, PySem.W.mg_none_of X G z10, PySem.W.mg_none_of X G z11, PySem.W.mg_none_of X G z12, PySem.W.mg_none_of X G z13, ⟨_, PySem.W.mg_of X G n_MOST_CELLS⟩, ⟨_, PySem.W.mg_of X G n_WIDEST⟩, ⟨_, PySem.W.mg_of X G n_HIGHEST⟩, PySem.W.mg_of X G g_NoSize, ⟨i_NoSize, y_NoSize, s_NoSize⟩, PySem.W.mg_of X G g_Outside, ⟨i_Outside, y_Outside, s_Outside⟩, PySem.W.mg_of X G g_CellError, ⟨i_CellError, y_CellError, s_CellError⟩, b_CellError, p_NoSize_NoSize, p_NoSize_Outside, p_NoSize_CellError, p_NoSize_ValueError, p_Outside_NoSize, p_Outside_Outside, p_Outside_CellError, p_Outside_ValueError, ⟨x_NoSize, k_NoSize, b_NoSize, y_NoSize⟩, (by simp), ⟨x_Outside, k_Outside, b_Outside, y_Outside⟩, (by simp), ⟨e1_NoSize, e2_NoSize, b_NoSize, e4_NoSize, e5_NoSize, e6, e7, e8_NoSize⟩, ⟨e1_Outside, e2_Outside, b_Outside, e4_Outside, e5_Outside, e6, e7, e8_Outside⟩⟩)⟩
end K49
open PySem PySem.W PyProof.Rows
set_option maxHeartbeats 0 in
theorem PySem.Challenge.cw_cellships_k49_papers_of_none_holds : PySem.Challenge.rw_cellships_k49_papers_of_none.Holds := by
  w_on; o_law; k_head; (case hw => w_witness2)
  k_fill
  refine L2.walk_of (l := PySem.Challenge.rw_cellships_k49_papers_of_none) (n := 63) (k := 8) (x := "_law_script") (CX := fun w => L2.CX PySem.Challenge.rw_cellships_k49_papers_of_none.prog w) (sp := fun w => G.spA _ K49.f_law) rfl (by decide) rfl ⟨rfl, by decide, by decide⟩ (fun w h Y => PySem.W.kIn_of Y) ?F (fun w H a ns hl _ hS => G.law_spA hS (K49.main ns hl)) (fun w H s e s' h => G.law_cx (P := PySem.Challenge.rw_cellships_k49_papers_of_none.prog) h)
  case F =>
    intro w mg fa h KX G hmg
    refine' K49.all_mk KX G hmg ?g_Triples ?pg_Triples ?hd_Triples ?po_Triples ?sa_Triples ?mk_Triples ?kc_Triples ?na_Triples_by_rule ?na_Triples_looked ?na_Triples_tables ?a0 ?l0 ?c0 ?k0 ?a1 ?l1 ?c1 ?k1 ?a2 ?l2 ?c2 ?k2 ?a3 ?l3 ?c3 ?k3 ?a4 ?l4 ?c4 ?k4 ?a5 ?l5 ?c5 ?k5 ?a6 ?l6 ?c6 ?k6 ?a7 ?l7 ?c7 ?k7 ?a8 ?l8 ?c8 ?k8 ?a9 ?i9 ?l9 ?c9 ?k9 ?a10 ?i10 ?l10 ?c10 ?k10 ?a11 ?i11 ?l11 ?c11 ?k11 ?a12 ?i12 ?l12 ?c12 ?k12 ?a13 ?i13 ?l13 ?c13 ?k13 ?a14 ?i14 ?l14 ?c14 ?k14 ?a15 ?i15 ?l15 ?c15 ?k15 ?a16 ?l16 ?c16 ?k16 ?a17 ?l17 ?c17 ?k17 ?a18 ?l18 ?c18 ?k18 ?a19 ?l19 ?c19 ?k19 ?a20 ?l20 ?c20 ?k20 ?a21 ?l21 ?c21 ?k21 ?a22 ?l22 ?c22 ?k22 ?a23 ?l23 ?c23 ?k23 ?a24 ?l24 ?c24 ?k24 ?a25 ?l25 ?c25 ?k25 ?a26 ?l26 ?c26 ?k26 ?a27 ?l27 ?c27 ?k27 ?a28 ?l28 ?c28 ?k28 ?a29 ?l29 ?c29 ?k29 ?a30 ?l30 ?c30 ?k30 ?a31 ?l31 ?c31 ?k31 ?a32 ?l32 ?c32 ?k32 ?a33 ?l33 ?c33 ?k33 ?a34 ?l34 ?c34 ?k34 ?a35 ?l35 ?c35 ?k35 ?a36 ?l36 ?c36 ?k36 ?a37 ?l37 ?c37 ?k37 ?a38 ?l38 ?c38 ?k38 ?z0 ?z1 ?z2 ?z3 ?z4 ?z5 ?z6 ?z7 ?z8 ?z9 ?z10 ?z11 ?z12 ?z13 ?n_MOST_CELLS ?n_WIDEST ?n_HIGHEST ?g_NoSize ?i_NoSize ?y_NoSize ?s_NoSize ?b_NoSize ?g_Outside ?i_Outside ?y_Outside ?s_Outside ?b_Outside ?g_CellError ?i_CellError ?y_CellError ?s_CellError ?b_CellError ?x_NoSize ?k_NoSize ?e1_NoSize ?e2_NoSize ?e4_NoSize ?e5_NoSize ?e8_NoSize ?x_Outside ?k_Outside ?e1_Outside ?e2_Outside ?e4_Outside ?e5_Outside ?e8_Outside ?e6 ?e7 ?u_NoSize ?u_Outside ?p_NoSize_NoSize ?p_NoSize_Outside ?p_NoSize_CellError ?p_NoSize_ValueError ?p_Outside_NoSize ?p_Outside_Outside ?p_Outside_CellError ?p_Outside_ValueError
    (case g_Triples => k_is); (case pg_Triples => k_is); (case hd_Triples => k_is); (case po_Triples => k_is); (case sa_Triples => k_is); (case mk_Triples => k_is); (case kc_Triples => k_is); (case na_Triples_by_rule => k_is); (case na_Triples_looked => k_is); (case na_Triples_tables => k_is); (case a0 => k_is); (case l0 => k_is); (case c0 => k_is); (case k0 => k_is); (case a1 => k_is); (case l1 => k_is); (case c1 => k_is); (case k1 => k_is); (case a2 => k_is); (case l2 => k_is); (case c2 => k_is); (case k2 => k_is); (case a3 => k_is); (case l3 => k_is); (case c3 => k_is); (case k3 => k_is); (case a4 => k_is); (case l4 => k_is); (case c4 => k_is); (case k4 => k_is); (case a5 => k_is); (case l5 => k_is); (case c5 => k_is); (case k5 => k_is); (case a6 => k_is); (case l6 => k_is); (case c6 => k_is); (case k6 => k_is); (case a7 => k_is); (case l7 => k_is); (case c7 => k_is); (case k7 => k_is); (case a8 => k_is); (case l8 => k_is); (case c8 => k_is); (case k8 => k_is); (case a9 => k_is); (case i9 => k_is); (case l9 => k_is); (case c9 => k_is); (case k9 => k_is); (case a10 => k_is); (case i10 => k_is); (case l10 => k_is); (case c10 => k_is); (case k10 => k_is); (case a11 => k_is); (case i11 => k_is); (case l11 => k_is); (case c11 => k_is); (case k11 => k_is); (case a12 => k_is); (case i12 => k_is); (case l12 => k_is); (case c12 => k_is); (case k12 => k_is); (case a13 => k_is); (case i13 => k_is); (case l13 => k_is); (case c13 => k_is); (case k13 => k_is); (case a14 => k_is); (case i14 => k_is); (case l14 => k_is); (case c14 => k_is); (case k14 => k_is); (case a15 => k_is); (case i15 => k_is); (case l15 => k_is); (case c15 => k_is); (case k15 => k_is); (case a16 => k_is); (case l16 => k_is); (case c16 => k_is); (case k16 => k_is); (case a17 => k_is); (case l17 => k_is); (case c17 => k_is); (case k17 => k_is); (case a18 => k_is); (case l18 => k_is); (case c18 => k_is); (case k18 => k_is); (case a19 => k_is); (case l19 => k_is); (case c19 => k_is); (case k19 => k_is); (case a20 => k_is); (case l20 => k_is); (case c20 => k_is); (case k20 => k_is); (case a21 => k_is); (case l21 => k_is); (case c21 => k_is); (case k21 => k_is); (case a22 => k_is); (case l22 => k_is); (case c22 => k_is); (case k22 => k_is); (case a23 => k_is); (case l23 => k_is); (case c23 => k_is); (case k23 => k_is); (case a24 => k_is); (case l24 => k_is); (case c24 => k_is); (case k24 => k_is); (case a25 => k_is); (case l25 => k_is); (case c25 => k_is); (case k25 => k_is); (case a26 => k_is); (case l26 => k_is); (case c26 => k_is); (case k26 => k_is); (case a27 => k_is); (case l27 => k_is); (case c27 => k_is); (case k27 => k_is); (case a28 => k_is); (case l28 => k_is); (case c28 => k_is); (case k28 => k_is); (case a29 => k_is); (case l29 => k_is); (case c29 => k_is); (case k29 => k_is); (case a30 => k_is); (case l30 => k_is); (case c30 => k_is); (case k30 => k_is); (case a31 => k_is); (case l31 => k_is); (case c31 => k_is); (case k31 => k_is); (case a32 => k_is); (case l32 => k_is); (case c32 => k_is); (case k32 => k_is); (case a33 => k_is); (case l33 => k_is); (case c33 => k_is); (case k33 => k_is); (case a34 => k_is); (case l34 => k_is); (case c34 => k_is); (case k34 => k_is); (case a35 => k_is); (case l35 => k_is); (case c35 => k_is); (case k35 => k_is); (case a36 => k_is); (case l36 => k_is); (case c36 => k_is); (case k36 => k_is); (case a37 => k_is); (case l37 => k_is); (case c37 => k_is); (case k37 => k_is); (case a38 => k_is); (case l38 => k_is); (case c38 => k_is); (case k38 => k_is); (case z0 => k_is); (case z1 => k_is); (case z2 => k_is); (case z3 => k_is); (case z4 => k_is); (case z5 => k_is); (case z6 => k_is); (case z7 => k_is); (case z8 => k_is); (case z9 => k_is); (case z10 => k_is); (case z11 => k_is); (case z12 => k_is); (case z13 => k_is); (case n_MOST_CELLS => k_is); (case n_WIDEST => k_is); (case n_HIGHEST => k_is); (case g_NoSize => k_is); (case i_NoSize => k_is); (case y_NoSize => k_is); (case s_NoSize => first | rfl | k_is); (case b_NoSize => k_is); (case g_Outside => k_is); (case i_Outside => k_is); (case y_Outside => k_is); (case s_Outside => first | rfl | k_is); (case b_Outside => k_is); (case g_CellError => k_is); (case i_CellError => k_is); (case y_CellError => k_is); (case s_CellError => first | rfl | k_is); (case b_CellError => k_is); (case x_NoSize => k_exc); (case k_NoSize => k_is); (case e1_NoSize => k_is); (case e2_NoSize => k_is); (case e4_NoSize => k_is); (case e5_NoSize => k_is); (case e8_NoSize => k_is); (case x_Outside => k_exc); (case k_Outside => k_is); (case e1_Outside => k_is); (case e2_Outside => k_is); (case e4_Outside => k_is); (case e5_Outside => k_is); (case e8_Outside => k_is); (case e6 => k_is); (case e7 => k_is); (case u_NoSize => k_is); (case u_Outside => k_is); (case p_NoSize_NoSize => k_is); (case p_NoSize_Outside => k_is); (case p_NoSize_CellError => k_is); (case p_NoSize_ValueError => k_is); (case p_Outside_NoSize => k_is); (case p_Outside_Outside => k_is); (case p_Outside_CellError => k_is); (case p_Outside_ValueError => k_is)
