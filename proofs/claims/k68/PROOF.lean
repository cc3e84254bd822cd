import PyProof.Rows.All
import Wide.All
import OpenK.AllK
import Wide.FinOn
import HandS.ForMost
import HandS.Flow
import HandS.Style
import HandS.Deep
import HandS.DeepEq
import HandS.DictComp
import HandS.Evl
import HandS.Wide
import KE.SortData
import KE.DataEq
import HandS.Walk
import HandS.Strs
import HandS.SetIn
import HandS.IsInst
import HandS.DictSubView
import PyProof.P3Eq
import KE.SortKeyHeap
import HandS.Lambda
import HandS.SortKw
import PyProof.WalkInts
import KE.KMinKey
import KE.DataFind
import HandS.More
import HandS.Iter
import HandS.Finally
import HandS.EndOwn
import HandS.Nested
import KE.KDictKeyed
import PyProof.Rows.StrStep
import PyProof.StrBlock2
import PySem.Challenge.RW_samegoing_k68_common_beginnings_and_ends
set_option Elab.async false
set_option linter.all false
set_option maxRecDepth 100000
set_option maxHeartbeats 4000000
/-! rules and short words of my own over the hand layer -/
namespace SG
open PySem PySem.Spec PyProof.Rows L2

/-! ### sorted of data, any length -/
theorem each_of_vals {h : Heap} : ∀ {xs : List V} {us : List Value} {ds : List PyData}, Vals xs us → xs.length = ds.length → PySem.W.EachIs (fun (u : Value) (b : V × PyData) => RelV b.1 u) us (xs.zip ds)
  | [], _, [], .nil, _ => .nil
  | x :: xs, _, d :: ds, .cons r t, hl => .cons r (each_of_vals (h := h) t (by simpa using hl))
theorem each_reads {X : Cx} {pins : List (Addr × Obj)} {σ : L2.St} {H : Hp} {s : Shared} (I : Inv X pins σ H s) : ∀ {xs : List V} {us : List Value} {ds : List PyData}, Vals xs us → DpAll X.K H xs ds →
    PySem.W.EachIs (fun (u : Value) (b : V × PyData) => ∃ as, Reads s.heap u b.2 as) us (xs.zip ds)
  | _, _, _, .nil, .nil => .nil
  | _, _, _, .cons r t, .cons h1 h2 => .cons (Dp.reads I _ _ _ h1 r) (each_reads I t h2)
theorem dpAll_len {K : PySem.W.Frag} {H : Hp} : ∀ {xs : List V} {ds : List PyData}, DpAll K H xs ds → xs.length = ds.length
  | _, _, .nil => rfl
  | _, _, .cons _ t => by rw [List.length_cons, List.length_cons, dpAll_len t]
theorem dpAll_zip {K : PySem.W.Frag} {H : Hp} : ∀ {xs : List V} {ds : List PyData}, DpAll K H xs ds → ∀ p ∈ xs.zip ds, Dp K H p.1 p.2
  | _, _, .nil, p, hp => by simp at hp
  | _, _, .cons h t, p, hp => by
    rw [List.zip_cons_cons] at hp
    rcases List.mem_cons.mp hp with rfl | hp
    · exact h
    · exact dpAll_zip t p hp
theorem dpAll_of_zip {K : PySem.W.Frag} {H : Hp} : ∀ {ps : List (V × PyData)}, (∀ p ∈ ps, Dp K H p.1 p.2) → DpAll K H (ps.map (·.1)) (ps.map (·.2))
  | [], _ => .nil
  | p :: ps, h => .cons (h p (by simp)) (dpAll_of_zip fun q hq => h q (by simp [hq]))
theorem vals_of_each : ∀ {us : List Value} {bs : List (V × PyData)}, PySem.W.EachIs (fun (u : Value) (b : V × PyData) => RelV b.1 u) us bs → Vals (bs.map (·.1)) us
  | _, _, .nil => .nil
  | _, _, .cons r t => .cons r (vals_of_each t)
/-- the sorted data -/
def dsort (ds : List PyData) : List PyData := ds.mergeSort (PySem.W.dataLe false id)
def rSortedX (K : PySem.W.Frag) : List V → Hp → VK → Prop := fun vs H Q => ∃ (a : Addr) (xs : List V) (ds : List PyData), vs = [V.ref a] ∧ SqL K H a xs ∧ DpAll K H xs ds ∧ PySem.W.AllAlike ds ∧ PySem.W.Sortable ds ∧ (∀ d ∈ ds, d.depth ≤ 8) ∧
  ∀ (ys : List V) (p : Addr), DpAll K H ys (dsort ds) → ys.Perm xs → H p = none → Q (.ref p) (upd H p (.lst ys))
theorem cr_sortedX {X : Cx} (hu : X.A.units + 64 < cLine) : CallR X (.builtin "sorted") (rSortedX X.K) := by
  intro pins s σ H vs us Q I r h
  obtain ⟨a, xs, ds, rfl, hs, hd, hal, hso, hdep, q⟩ := h
  obtain ⟨its, rv, hl, hz⟩ := I.list hs
  rw [Vals.ref1 r]
  have hlen := dpAll_len hd
  have hm : (xs.zip ds).map Prod.snd = ds := List.map_snd_zip (by omega)
  have hm1 : (xs.zip ds).map Prod.fst = xs := List.map_fst_zip (by omega)
  refine PySem.W.sorted_data (enc := Prod.snd) hl.isList (each_of_vals (h := s.heap) rv hlen) (each_reads I rv hd) (by rw [hm]; exact hal) (by rw [hm]; exact hso)
    (by rw [List.length_zip]; omega) (fun b hb => ?_) fun out ho hE => ?_
  · have := hdep b.2 (by rw [← hm]; exact List.mem_map_of_mem hb)
    omega
  · obtain ⟨ep, he'⟩ := PyProof.Rows.sortedAll_at s.heap its (List.toArray out)
    have hp := List.mergeSort_perm (xs.zip ds) (PySem.W.dataLe false Prod.snd)
    have e2 : ((xs.zip ds).mergeSort (PySem.W.dataLe false Prod.snd)).map (·.2) = dsort ds := by
      have := PySem.W.sort_maps (r := PySem.W.dataLe false (Prod.snd : V × PyData → PyData)) (s := PySem.W.dataLe false id) (Prod.snd : V × PyData → PyData) (l := xs.zip ds) (fun a _ b _ => rfl)
      rw [hm] at this
      exact this
    have hD : DpAll X.K H (((xs.zip ds).mergeSort (PySem.W.dataLe false Prod.snd)).map (·.1)) (dsort ds) := by
      rw [← e2]
      exact dpAll_of_zip fun p hpp => dpAll_zip hd p (hp.mem_iff.mp hpp)
    have hP : (((xs.zip ds).mergeSort (PySem.W.dataLe false Prod.snd)).map (·.1)).Perm xs := by
      have := hp.map (·.1)
      rw [hm1] at this
      exact this
    have hlenY : (((xs.zip ds).mergeSort (PySem.W.dataLe false Prod.snd)).map (·.1)).length ≤ sizeLine := by rw [hP.length_eq]; exact hz
    exact ⟨.ref _, upd H (s.heap.objs.size + 1) (.lst _), I.laid (t' := s.toks) (fun _ _ => PyProof.Rows.sortedAll_old) (Nat.le_succ _) ⟨hlenY, out, ep, vals_of_each hE, by simpa using he'⟩, rfl, q _ _ hD hP (I.hok.fresh (Nat.le_succ _))⟩

/-! ### == != in, not in of data -/
section
variable {K : PySem.W.Frag} {H : Hp}
mutual
theorem dp_plain : ∀ (d : PyData) (v : V), Dp K H v d → d.plain = true
  | .none, _, _ => by rw [PyData.plain]
  | .bool _, _, _ => by rw [PyData.plain]
  | .int _, _, _ => by rw [PyData.plain]
  | .str _, _, _ => by rw [PyData.plain]
  | .list xs, _, h => by
    cases h with
    | lst _ ha =>
      rw [PyData.plain]
      exact dpAll_plain xs _ ha
  | .tuple xs, _, h => by
    cases h with
    | tup _ ha =>
      rw [PyData.plain]
      exact dpAll_plain xs _ ha
  | .dict _, _, h => by cases h
theorem dpAll_plain : ∀ (ds : List PyData) (vs : List V), DpAll K H vs ds → PyData.plainAll ds = true
  | [], _, _ => by rw [PyData.plainAll]
  | d :: ds, _, h => by
    cases h with
    | cons h1 h2 => rw [PyData.plainAll, dp_plain d _ h1, dpAll_plain ds _ h2]; rfl
end
end
def rEqP (K : PySem.W.Frag) : R2 := fun x y H Q => ∃ d e, Dp K H x d ∧ Dp K H y e ∧ d.depth ≤ 60 ∧ Q (.bl (PyData.eqv d e)) H
def rNeP (K : PySem.W.Frag) : R2 := fun x y H Q => ∃ d e, Dp K H x d ∧ Dp K H y e ∧ d.depth ≤ 60 ∧ Q (.bl (!PyData.eqv d e)) H
theorem op_eqP {X : Cx} (hu : X.A.units + 64 < cLine) : OpR X (compareOp .Eq) (rEqP X.K) := by
  intro pins s σ H x y v u Q I rx ry h
  obtain ⟨d, e, hd, he, sd, q⟩ := h
  obtain ⟨as, r1⟩ := Dp.reads I d x v hd rx
  obtain ⟨bs, r2⟩ := Dp.reads I e y u he ry
  exact SeqAt.eq_plain r1 r2 (dp_plain _ _ hd) (dp_plain _ _ he) (by omega) ⟨.bl _, H, I, rfl, q⟩
theorem op_neP {X : Cx} (hu : X.A.units + 64 < cLine) : OpR X (compareOp .NotEq) (rNeP X.K) := by
  intro pins s σ H x y v u Q I rx ry h
  obtain ⟨d, e, hd, he, sd, q⟩ := h
  obtain ⟨as, r1⟩ := Dp.reads I d x v hd rx
  obtain ⟨bs, r2⟩ := Dp.reads I e y u he ry
  exact SeqAt.ne_plain r1 r2 (dp_plain _ _ hd) (dp_plain _ _ he) (by omega) ⟨.bl _, H, I, rfl, q⟩
/-- x in a list of data | a tuple -/
def rInP (K : PySem.W.Frag) : R2 := fun x y H Q => ∃ d ds, Dp K H x d ∧ (Dp K H y (.list ds) ∨ Dp K H y (.tuple ds)) ∧ d.depth ≤ 60 ∧ Q (.bl (ds.any fun z => PyData.eqv z d)) H
def rNotInP (K : PySem.W.Frag) : R2 := fun x y H Q => ∃ d ds, Dp K H x d ∧ (Dp K H y (.list ds) ∨ Dp K H y (.tuple ds)) ∧ d.depth ≤ 60 ∧ Q (.bl (!ds.any fun z => PyData.eqv z d)) H
theorem op_inP {X : Cx} (hu : X.A.units + 64 < cLine) : OpR X (compareOp .In) (rInP X.K) := by
  intro pins s σ H x y v u Q I rx ry h
  obtain ⟨d, ds, hd, he, sd, q⟩ := h
  obtain ⟨as, r1⟩ := Dp.reads I d x v hd rx
  rcases he with he | he
  · obtain ⟨bs, r2⟩ := Dp.reads I (.list ds) y u he ry
    have hp := dp_plain _ _ he
    rw [PyData.plain] at hp
    exact SeqAt.in_list_data r2 r1 hp (dp_plain _ _ hd) (by omega) ⟨.bl _, H, I, rfl, q⟩
  · obtain ⟨bs, r2⟩ := Dp.reads I (.tuple ds) y u he ry
    have hp := dp_plain _ _ he
    rw [PyData.plain] at hp
    exact SeqAt.in_tuple_data r2 r1 hp (dp_plain _ _ hd) (by omega) ⟨.bl _, H, I, rfl, q⟩
theorem op_notInP {X : Cx} (hu : X.A.units + 64 < cLine) : OpR X (compareOp .NotIn) (rNotInP X.K) := by
  intro pins s σ H x y v u Q I rx ry h
  obtain ⟨d, ds, hd, he, sd, q⟩ := h
  obtain ⟨as, r1⟩ := Dp.reads I d x v hd rx
  rcases he with he | he
  · obtain ⟨bs, r2⟩ := Dp.reads I (.list ds) y u he ry
    have hp := dp_plain _ _ he
    rw [PyData.plain] at hp
    exact SeqAt.notIn_list_data r2 r1 hp (dp_plain _ _ hd) (by omega) ⟨.bl _, H, I, rfl, q⟩
  · obtain ⟨bs, r2⟩ := Dp.reads I (.tuple ds) y u he ry
    have hp := dp_plain _ _ he
    rw [PyData.plain] at hp
    exact SeqAt.notIn_tuple_data r2 r1 hp (dp_plain _ _ hd) (by omega) ⟨.bl _, H, I, rfl, q⟩

/-! ### encodings of plain data: what is equal in Python is equal -/
def Enc {α : Type} [DecidableEq α] (e : α → PyData) : Prop := ∀ a b, PyData.eqv (e a) (e b) = decide (a = b)
theorem enc_str : Enc PyData.str := fun a b => by
  rw [PyData.eqv]
  by_cases h : a = b
  · simp [h]
  · simp [h]
theorem enc_int : Enc PyData.int := fun a b => by
  rw [PyData.eqv]
  by_cases h : a = b
  · simp [h]
  · simp [h]
section
variable {α β γ : Type} [DecidableEq α] [DecidableEq β] [DecidableEq γ] {ea : α → PyData} {eb : β → PyData} {ec : γ → PyData}
def eL {α : Type} (e : α → PyData) (xs : List α) : PyData := .list (xs.map e)
def eT {α : Type} (e : α → PyData) (xs : List α) : PyData := .tuple (xs.map e)
def e2 {α β : Type} (ea : α → PyData) (eb : β → PyData) (p : α × β) : PyData := .tuple [ea p.1, eb p.2]
def e3 {α β γ : Type} (ea : α → PyData) (eb : β → PyData) (ec : γ → PyData) (p : α × β × γ) : PyData := .tuple [ea p.1, eb p.2.1, ec p.2.2]
theorem eqvAll_enc (h : Enc ea) : ∀ xs ys : List α, PyData.eqvAll (xs.map ea) (ys.map ea) = decide (xs = ys)
  | [], [] => by simp [PyData.eqvAll]
  | [], y :: ys => by simp [PyData.eqvAll]
  | x :: xs, [] => by simp [PyData.eqvAll]
  | x :: xs, y :: ys => by
    rw [List.map_cons, List.map_cons, PyData.eqvAll, h x y, eqvAll_enc h xs ys]
    by_cases h1 : x = y <;> by_cases h2 : xs = ys <;> simp [h1, h2]
theorem enc_L (h : Enc ea) : Enc (eL ea) := fun xs ys => by
  unfold eL
  rw [PyData.eqv, eqvAll_enc h]
theorem enc_T (h : Enc ea) : Enc (eT ea) := fun xs ys => by
  unfold eT
  rw [PyData.eqv, eqvAll_enc h]
theorem enc_2 (h : Enc ea) (h' : Enc eb) : Enc (e2 ea eb) := fun x y => by
  unfold e2
  simp only [PyData.eqv, PyData.eqvAll, h x.1 y.1, h' x.2 y.2, Bool.and_true]
  by_cases h1 : x.1 = y.1 <;> by_cases h2 : x.2 = y.2 <;> simp [h1, h2, Prod.ext_iff]
theorem enc_3 (h : Enc ea) (h' : Enc eb) (h'' : Enc ec) : Enc (e3 ea eb ec) := fun x y => by
  unfold e3
  simp only [PyData.eqv, PyData.eqvAll, h x.1 y.1, h' x.2.1 y.2.1, h'' x.2.2 y.2.2, Bool.and_true]
  by_cases h1 : x.1 = y.1 <;> by_cases h2 : x.2.1 = y.2.1 <;> by_cases h3 : x.2.2 = y.2.2 <;> simp [h1, h2, h3, Prod.ext_iff]
theorem any_enc (h : Enc ea) (xs : List α) (a : α) : ((xs.map ea).any fun z => PyData.eqv z (ea a)) = decide (a ∈ xs) := by
  induction xs with
  | nil => rfl
  | cons x r ih =>
    rw [List.map_cons, List.any_cons, ih, h x a]
    by_cases h1 : x = a
    · simp [h1]
    · have h2 : ¬ a = x := fun e => h1 e.symm
      simp [h1, h2]
/-- depths -/
def Dep {α : Type} (e : α → PyData) (n : Nat) : Prop := ∀ a, (e a).depth ≤ n
theorem dep_str : Dep PyData.str 0 := fun a => by rw [PyData.depth]; exact Nat.le_refl _
theorem dep_int : Dep PyData.int 0 := fun a => by rw [PyData.depth]; exact Nat.le_refl _
theorem depAll {n : Nat} (h : Dep ea n) : ∀ xs : List α, PyData.depthAll (xs.map ea) ≤ n
  | [] => by rw [List.map_nil, PyData.depthAll]; exact Nat.zero_le _
  | x :: xs => by rw [List.map_cons, PyData.depthAll]; exact Nat.max_le.mpr ⟨h x, depAll h xs⟩
theorem dep_L {n : Nat} (h : Dep ea n) : Dep (eL ea) (n + 1) := fun xs => by
  unfold eL
  rw [PyData.depth]
  have := depAll h xs
  omega
theorem dep_T {n : Nat} (h : Dep ea n) : Dep (eT ea) (n + 1) := fun xs => by
  unfold eT
  rw [PyData.depth]
  have := depAll h xs
  omega
theorem dep_2 {n m : Nat} (h : Dep ea n) (h' : Dep eb m) : Dep (e2 ea eb) (max n m + 1) := fun p => by
  unfold e2
  simp only [PyData.depth, PyData.depthAll]
  have := h p.1
  have := h' p.2
  omega
theorem dep_3 {n m k : Nat} (h : Dep ea n) (h' : Dep eb m) (h'' : Dep ec k) : Dep (e3 ea eb ec) (max n (max m k) + 1) := fun p => by
  unfold e3
  simp only [PyData.depth, PyData.depthAll]
  have := h p.1
  have := h' p.2.1
  have := h'' p.2.2
  omega
end

/-! ### two dicts of data that are equal -/
def EqEnt (K : PySem.W.Frag) (H : Hp) (ls : List (Key × V)) (p : Key × V) : Prop := ∃ u d e, valV ls p.1 = some u ∧ Dp K H p.2 d ∧ Dp K H u e ∧ d.depth ≤ 60 ∧ PyData.eqv d e = true
theorem hits_data {X : Cx} {pins : List (Addr × Obj)} {σ : L2.St} {H : Hp} {s : Shared} (I : Inv X pins σ H s) (hu : X.A.in1.units + 64 < cLine) {ls : List (Key × V)} {vb : List (Key × Value)} (rb : KV ls vb) :
    ∀ {ks : List (Key × V)} {va : List (Key × Value)}, KV ks va → (∀ p ∈ ks, EqEnt X.K H ls p) → PySem.W.KeqHits X.A.in1 s vb va true := by
  intro ks va ra
  unfold KV at ra
  induction ra with
  | nil => intro _; exact .nil
  | @cons p q ps qs h t k =>
    intro hp
    obtain ⟨h1, h2⟩ := h
    obtain ⟨u, d, e, ev, hd, he, sd, eq⟩ := hp p List.mem_cons_self
    have rr : RelO (some u) (valueAt vb p.1) := by rw [← ev]; exact rb.val p.1
    obtain ⟨y, hy, ry⟩ := rr.some_of
    obtain ⟨key, v⟩ := q
    have h1' : p.1 = key := h1
    rw [h1'] at hy
    obtain ⟨as, r1⟩ := Dp.reads I d _ _ hd h2
    obtain ⟨bs, r2⟩ := Dp.reads I e _ _ he ry
    have ea := SeqAt.eqAt_plain d e X.A.in1 s _ _ _ _ r1 r2 (dp_plain _ _ hd) (dp_plain _ _ he) (by omega)
    rw [eq] at ea
    show PySem.W.KeqHits X.A.in1 s vb ((key, v) :: qs) (true && true)
    exact .hit hy ea (k fun p' hm => hp p' (List.mem_cons_of_mem _ hm))
def rEqW (K : PySem.W.Frag) : R2 := fun x y H Q => ∃ a b ks ls, x = .ref a ∧ y = .ref b ∧ H a = some (.dK ks) ∧ H b = some (.dK ls) ∧ ks.length = ls.length ∧ (∀ p ∈ ks, EqEnt K H ls p) ∧ Q (.bl true) H
def rNeW (K : PySem.W.Frag) : R2 := fun x y H Q => ∃ a b ks ls, x = .ref a ∧ y = .ref b ∧ H a = some (.dK ks) ∧ H b = some (.dK ls) ∧ ks.length = ls.length ∧ (∀ p ∈ ks, EqEnt K H ls p) ∧ Q (.bl false) H
theorem op_eqW {X : Cx} (hu : X.A.units + 65 < cLine) : OpR X (compareOp .Eq) (rEqW X.K) := by
  intro pins s σ H x y v u Q I rx ry h
  obtain ⟨a, b, ks, ls, rfl, rfl, ea, eb, hlen, hp, q⟩ := h
  obtain rfl : v = Value.ref a := rx
  obtain rfl : u = Value.ref b := ry
  obtain ⟨_, ya, va, ra, da⟩ := (show ObjOk X.prog X.w H s.heap a (.dK ks) from I.hok a _ ea)
  obtain ⟨_, yb, vb, rb, db⟩ := (show ObjOk X.prog X.w H s.heap b (.dK ls) from I.hok b _ eb)
  have hl : va.length = vb.length := by rw [← ra.length, ← rb.length]; exact hlen
  have hu1 : X.A.in1.units + 64 < cLine := by show X.A.units + 1 + 64 < cLine; omega
  exact PySem.W.keq_eq (knd := mixKind X.prog X.w) (r := true) ya yb da db (by omega) (fun _ => hits_data I hu1 rb ra hp) ⟨.bl true, H, I, by simp [hl]; rfl, q⟩
theorem op_neW {X : Cx} (hu : X.A.units + 65 < cLine) : OpR X (compareOp .NotEq) (rNeW X.K) := by
  intro pins s σ H x y v u Q I rx ry h
  obtain ⟨a, b, ks, ls, rfl, rfl, ea, eb, hlen, hp, q⟩ := h
  obtain rfl : v = Value.ref a := rx
  obtain rfl : u = Value.ref b := ry
  obtain ⟨_, ya, va, ra, da⟩ := (show ObjOk X.prog X.w H s.heap a (.dK ks) from I.hok a _ ea)
  obtain ⟨_, yb, vb, rb, db⟩ := (show ObjOk X.prog X.w H s.heap b (.dK ls) from I.hok b _ eb)
  have hl : va.length = vb.length := by rw [← ra.length, ← rb.length]; exact hlen
  have hu1 : X.A.in1.units + 64 < cLine := by show X.A.units + 1 + 64 < cLine; omega
  exact PySem.W.keq_ne (knd := mixKind X.prog X.w) (r := true) ya yb da db (by omega) (fun _ => hits_data I hu1 rb ra hp) ⟨.bl false, H, I, by simp [hl]; rfl, q⟩
/-- dict of a list of pairs -/
def rDictP (K : PySem.W.Frag) : List V → Hp → VK → Prop := fun xs H Q => ∃ (a : Addr) (ps : List Addr) (kvs : List (Key × V)), xs = [.ref a] ∧ SqL K H a (ps.map V.ref) ∧ Paired (fun p kv => SqT K H p [kV kv.1, kv.2]) ps kvs ∧
    ∀ p, H p = none → Q (.ref p) (upd H p (.dK (mergeK [] kvs)))
theorem hu64_of {A : Around} {k : Nat} (hr : Room k A) : A.units + 64 < cLine := by have := hr.un; omega
theorem hu65_of {A : Around} {k : Nat} (hr : Room k A) : A.units + 65 < cLine := by have := hr.un; omega
end SG
namespace SG
open PySem PySem.Spec PyProof.Rows L2

/-! ### lists of texts as data -/
section
variable {K : PySem.W.Frag} {H H' : Hp}
theorem dpAll_strs : ∀ xs : List Str, DpAll K H (xs.map V.str) (xs.map PyData.str)
  | [] => .nil
  | x :: r => .cons (.str x) (dpAll_strs r)
theorem of_dpAll_strs : ∀ {ys : List V} {xs : List Str}, DpAll K H ys (xs.map PyData.str) → ys = xs.map V.str
  | _, [], h => by
    cases h
    rfl
  | _, x :: r, h => by
    cases h with
    | cons h1 h2 =>
      cases h1
      rw [of_dpAll_strs h2]
      rfl
theorem dp_strs {a : Addr} {xs : List Str} (h : SqL K H a (xs.map V.str)) : Dp K H (.ref a) (.list (xs.map .str)) := .lst h (dpAll_strs xs)
theorem alike_strs (xs : List Str) : PySem.W.AllAlike (xs.map PyData.str) := PySem.W.AllAlike.of fun _ _ => by rw [PySem.W.alike]
theorem sortable_strs (xs : List Str) : PySem.W.Sortable (xs.map PyData.str) := PySem.W.Sortable.others fun b => ⟨(fun h => by cases h), (fun xs h => by cases h)⟩
/-- texts sorted -/
def ssort (xs : List Str) : List Str := xs.mergeSort fun a b => decide (a.cps.toList ≤ b.cps.toList)
theorem dsort_strs (xs : List Str) : dsort (xs.map .str) = (ssort xs).map .str := by
  unfold dsort ssort
  refine (PySem.W.sort_maps PyData.str fun a _ b _ => ?_).symm
  have e := congrFun (congrFun (PySem.W.dataLe_str (fun x : Str => x)) a) b
  exact e.symm
theorem ssort_perm (xs : List Str) : (ssort xs).Perm xs := List.mergeSort_perm _ _
theorem sle_total : PySem.W.TotalLe (fun a b : Str => decide (a.cps.toList ≤ b.cps.toList)) := by
  have h := PySem.W.sortLe_total (PyProof.Rows.listOrd PyProof.Rows.itemOrd) false fun b : Str => PySem.W.keyToks (.str b)
  have e := PySem.W.dataLe_str (fun x : Str => x)
  unfold PySem.W.dataLe at e
  rw [e] at h
  exact h
theorem ssort_pair (xs : List Str) : (ssort xs).Pairwise fun a b => decide (a.cps.toList ≤ b.cps.toList) = true := PySem.W.sort_pairwise sle_total xs
theorem sle_anti {a b : Str} (h : decide (a.cps.toList ≤ b.cps.toList) = true) (h' : decide (b.cps.toList ≤ a.cps.toList) = true) : a = b :=
  PySem.W.str_of_cps (Std.le_antisymm (of_decide_eq_true h) (of_decide_eq_true h'))
/-- sorted is the same for what is the same but for the order -/
theorem ssort_eq {xs ys : List Str} (h : xs.Perm ys) : ssort xs = ssort ys :=
  ((ssort_perm xs).trans (h.trans (ssort_perm ys).symm)).eq_of_pairwise (fun _ _ _ _ => sle_anti) (ssort_pair xs) (ssort_pair ys)
abbrev eSs : List Str → PyData := eL PyData.str
theorem enc_Ss : Enc eSs := enc_L enc_str
theorem dep_Ss : Dep eSs 1 := dep_L dep_str
theorem dp_Ss {a : Addr} {xs : List Str} (h : H a = some (.lst (xs.map V.str))) : Dp K H (.ref a) (eSs xs) := dp_strs (SqL.of h)
end
/-! ### heaps -/
theorem tyes {σ : L2.St} {H : Hp} {Q : Bool → Hp → Prop} (h : Q true H) : tYes σ H Q := h
/-- a test that says unlike of what is like -/
theorem iteNE {b : Bool} {A B : Prop} (hb : b = true) (h : B) : if (!b) = true then A else B := by
  rw [hb]
  exact iteF h
theorem iteB {b : Bool} {A B : Prop} (h1 : b = true → A) (h2 : b = false → B) : if b = true then A else B := by
  cases b with
  | true => exact iteT (h1 rfl)
  | false => exact iteF (h2 rfl)
theorem lt0 {j : Int} (h : 0 < j := by decide) : 0 < j := h
theorem same_new {H : Hp} {p : Addr} {o : HO} (h : H p = none) : Same H (upd H p o) := fun b x e => by
  rw [upd_ne (ne_of_none e h)]
  exact e
/-- an object that H does not know may change -/
theorem same_mut {H H' : Hp} {p : Addr} {o : HO} (e : Same H H') (h : H p = none) : Same H (upd H' p o) := fun a u ha => by
  rw [upd_ne (ne_of_none ha h)]
  exact e a u ha
theorem sl1 {n : Nat} (h : n ≤ 1000000) : n < sizeLine := by rw [sizeLine_eq]; omega
theorem sl2 {n : Nat} (h : n ≤ 1000000) : n ≤ sizeLine := by rw [sizeLine_eq]; omega
theorem atI_eq {α : Type} {xs : List α} {i : Int} (h0 : 0 ≤ i) (h1 : i < xs.length) : atI xs i = xs[i.toNat]? := by
  obtain ⟨n, rfl⟩ : ∃ n : Nat, i = n := ⟨i.toNat, by omega⟩
  have h : n < xs.length := by omega
  rw [atI_nat (List.getElem?_eq_getElem h)]
  simp [h]
/-- an item at a place within -/
theorem atI_some {α : Type} {xs : List α} {i : Int} (h0 : 0 ≤ i) (h1 : i < xs.length) : ∃ v, atI xs i = some v ∧ v ∈ xs := by
  rw [atI_eq h0 h1]
  have h : i.toNat < xs.length := by omega
  exact ⟨xs[i.toNat], List.getElem?_eq_getElem h, List.getElem_mem h⟩
theorem app_sign (l : List Nat) (c : Nat) : (⟨l.toArray⟩ : Str) ++ (⟨#[c]⟩ : Str) = ⟨(l ++ [c]).toArray⟩ := Str.ext' (by show l.toArray ++ #[c] = _; simp)
theorem dpAll_ints {K : PySem.W.Frag} {H : Hp} : ∀ xs : List Int, DpAll K H (xs.map V.int) (xs.map PyData.int)
  | [] => .nil
  | x :: r => .cons (.int x) (dpAll_ints r)
theorem cut_lt (xs : List V) (n : Nat) : cutV xs none (some (n : Int)) = xs.take n := by
  unfold cutV
  rw [HT.sIx_none, HT.sIx_nat, Nat.sub_zero, List.drop_zero, ← List.take_eq_take_min]
theorem paired_len {α β : Type} {F : α → β → Prop} : ∀ {xs : List α} {ys : List β}, Paired F xs ys → xs.length = ys.length
  | _, _, .nil => rfl
  | _, _, .cons _ t => by rw [List.length_cons, List.length_cons, paired_len t]
theorem lock_same {H H' : Hp} {d : Addr} {u : HO} {od : Obj} (h : H d = some u) (e : Same (upd H d (.frz od u)) H') : Same H (upd H' d u) := fun a o g => by
  by_cases n : a = d
  · subst n
    rw [upd_same, ← h, g]
  · rw [upd_ne n]
    exact e a o (by rw [upd_ne n]; exact g)
theorem find_nd : ∀ {kb : List (Str × List Str)} {i : Nat} {m : Str × List Str}, (kb.map (·.1)).Nodup → kb[i]? = some m → (kb.find? fun x => decide (x.1 = m.1)) = some m
  | [], _, _, _, h => by simp at h
  | x :: r, 0, m, _, h => by
    have e : x = m := Option.some.inj h
    rw [e, List.find?_cons_of_pos (by simp)]
  | x :: r, i + 1, m, nd, h => by
    rw [List.map_cons, List.nodup_cons] at nd
    have hm : m ∈ r := List.mem_of_getElem? h
    rw [List.find?_cons_of_neg, find_nd nd.2 h]
    intro e
    exact nd.1 (by rw [of_decide_eq_true e]; exact List.mem_map_of_mem hm)
theorem mergeK_nd : ∀ {more kvs : List (Key × V)}, (∀ p ∈ more, valV kvs p.1 = none) → (more.map (·.1)).Nodup → mergeK kvs more = kvs ++ more
  | [], kvs, _, _ => by
    rw [List.append_nil]
    rfl
  | p :: more, kvs, h, nd => by
    have e : putK kvs p.1 p.2 = kvs ++ [(p.1, p.2)] := putK_new _ (h p List.mem_cons_self)
    rw [List.map_cons, List.nodup_cons] at nd
    show mergeK (putK kvs p.1 p.2) more = _
    rw [e, mergeK_nd (kvs := kvs ++ [(p.1, p.2)]) (fun q hq => ?_) nd.2, List.append_assoc]
    · rfl
    · rw [valV_snoc _ _ _ _ (h p List.mem_cons_self), if_neg]
      · exact h q (List.mem_cons_of_mem _ hq)
      · intro e
        exact nd.1 (e ▸ List.mem_map_of_mem hq)
/-! ### outs -/
def BaseAt (H : Hp) (kvs : List (Key × V)) (kb : List (Str × List Str)) : Prop := Paired (fun (p : Key × V) (m : Str × List Str) => p.1 = Sum.inr m.1 ∧ ∃ a, p.2 = .ref a ∧ H a = some (.lst (m.2.map V.str))) kvs kb
/-- the making of a name -/
def mk (kb : List (Str × List Str)) (n : Str) : List Str := ((kb.find? fun m => decide (m.1 = n)).map (·.2)).getD [n]
def outs (kb : List (Str × List Str)) (ns : List Str) : List Str := ns.flatMap (mk kb)
theorem baseAt_val {H : Hp} : ∀ {kvs : List (Key × V)} {kb : List (Str × List Str)}, BaseAt H kvs kb → ∀ n : Str,
    (valV kvs (Sum.inr n : Key) = none ∧ (kb.find? fun m => decide (m.1 = n)) = none) ∨ ∃ a ms, valV kvs (Sum.inr n : Key) = some (.ref a) ∧ H a = some (.lst (ms.map V.str)) ∧ ((kb.find? fun m => decide (m.1 = n)).map (·.2)) = some ms ∧ (n, ms) ∈ kb
  | _, _, .nil, n => .inl ⟨rfl, rfl⟩
  | p :: kvs, m :: kb, .cons ⟨h1, a, h2, h3⟩ t, n => by
    by_cases e : m.1 = n
    · refine .inr ⟨a, m.2, ?_, h3, ?_, ?_⟩
      · rw [valV_pos (by rw [h1, e]), h2]
      · rw [List.find?_cons_of_pos (by simpa using e)]
        rfl
      · rw [← e]
        exact List.mem_cons_self
    · rw [valV_neg (by rw [h1]; intro z; exact e (Sum.inr.inj z)), List.find?_cons_of_neg (by simpa using e)]
      rcases baseAt_val t n with h | ⟨b, ms, x1, x2, x3, x4⟩
      · exact .inl h
      · exact .inr ⟨b, ms, x1, x2, x3, List.mem_cons_of_mem _ x4⟩
theorem mk_len {kb : List (Str × List Str)} (h : ∀ m ∈ kb, m.2.length ≤ 4) (n : Str) : (mk kb n).length ≤ 4 := by
  unfold mk
  cases e : kb.find? fun m => decide (m.1 = n) with
  | none => simp
  | some m => simpa using h m (List.mem_of_find?_eq_some e)
theorem outs_len {kb : List (Str × List Str)} (h : ∀ m ∈ kb, m.2.length ≤ 4) : ∀ ns : List Str, (outs kb ns).length ≤ 4 * ns.length
  | [] => Nat.zero_le _
  | n :: r => by
    unfold outs
    rw [List.flatMap_cons, List.length_append]
    have h1 := mk_len h n
    have h2 := outs_len h r
    unfold outs at h2
    rw [List.length_cons]
    omega
theorem outs_snoc (kb : List (Str × List Str)) (ns : List Str) (n : Str) : outs kb (ns ++ [n]) = outs kb ns ++ mk kb n := by
  unfold outs
  simp
theorem take_snoc {α : Type} {xs : List α} {i : Nat} {x : α} (h : xs[i]? = some x) : xs.take (i + 1) = xs.take i ++ [x] := by
  rw [List.take_add_one, h]
  rfl
theorem map_at {α β : Type} {f : α → β} {xs : List α} {i : Nat} {y : β} (h : (xs.map f)[i]? = some y) : ∃ x, xs[i]? = some x ∧ y = f x := by
  rw [List.getElem?_map] at h
  cases e : xs[i]? with
  | none => rw [e] at h; cases h
  | some x => rw [e] at h; exact ⟨x, rfl, (Option.some.inj h).symm⟩
end SG
/-! len(set(texts)), any number of texts -/
namespace SG
open PySem PySem.Spec PyProof.Rows L2
/-- texts, each once -/
def once1 (l : List Str) (x : Str) : List Str := if l.any (· == x) = true then l else l ++ [x]
def once (xs : List Str) : List Str := xs.foldl once1 []
theorem once_snoc (xs : List Str) (x : Str) : once (xs ++ [x]) = once1 (once xs) x := by
  unfold once
  rw [List.foldl_append]
  rfl
theorem once_len : ∀ n (xs : List Str), xs.length = n → (once xs).length ≤ n := by
  intro n
  induction n with
  | zero => intro xs h; rw [List.eq_nil_of_length_eq_zero h]; exact Nat.le_refl _
  | succ n ih =>
    intro xs h
    have hne : xs ≠ [] := by intro e; rw [e] at h; simp at h
    rw [← List.dropLast_concat_getLast hne, once_snoc]
    have h1 := ih xs.dropLast (by rw [List.length_dropLast]; omega)
    unfold once1
    split
    · omega
    · rw [List.length_append, List.length_singleton]; omega
theorem once1_any (l : List Str) (x k : Str) : (once1 l x).any (· == k) = (l.any (· == k) || decide (k = x)) := by
  unfold once1
  by_cases h : l.any (· == x) = true
  · rw [if_pos h]
    by_cases e : k = x
    · subst e; rw [h]; simp
    · simp [e]
  · rw [if_neg h, List.any_append]
    by_cases e : k = x
    · subst e; simp
    · have hb : (x == k) = false := by simpa [beq_iff_eq] using (fun q : x = k => e q.symm)
      simp [hb, e]
theorem once1_len (l : List Str) (x : Str) : (once1 l x).length = if l.any (· == x) then l.length else l.length + 1 := by
  unfold once1; split <;> simp
theorem once_mem : ∀ (xs : List Str) (k : Str), (once xs).any (· == k) = xs.any (· == k) := by
  intro xs k
  have : ∀ (ys l : List Str), (ys.foldl once1 l).any (· == k) = (l.any (· == k) || ys.any (· == k)) := by
    intro ys
    induction ys with
    | nil => intro l; simp
    | cons y r ih =>
      intro l
      rw [List.foldl_cons, ih, once1_any, List.any_cons, Bool.or_assoc]
      congr 2
      by_cases e : k = y
      · subst e; simp
      · have hb : (y == k) = false := by simpa [beq_iff_eq] using (fun q : y = k => e q.symm)
        simp [hb, e]
  rw [show once xs = xs.foldl once1 [] from rfl, this]
  simp
theorem once_nodup : ∀ xs : List Str, (once xs).length = xs.length ↔ xs.Nodup := by
  have key : ∀ n (xs : List Str), xs.length = n → ((once xs).length = xs.length ↔ xs.Nodup) := by
    intro n
    induction n with
    | zero => intro xs h; rw [List.eq_nil_of_length_eq_zero h]; exact ⟨fun _ => List.nodup_nil, fun _ => rfl⟩
    | succ n ih =>
      intro xs h
      have hne : xs ≠ [] := by intro e; rw [e] at h; simp at h
      have hdl : xs.dropLast.length = n := by rw [List.length_dropLast]; omega
      have h1 := ih xs.dropLast hdl
      have h2 := once_len _ xs.dropLast rfl
      generalize hl : xs.dropLast = ys at *
      generalize hg : xs.getLast hne = x at *
      have ex : xs = ys ++ [x] := by rw [← hl, ← hg, List.dropLast_concat_getLast]
      rw [ex, once_snoc, once1_len, once_mem, List.length_append, List.length_singleton]
      by_cases e : ys.any (· == x) = true
      · rw [if_pos e]
        refine ⟨fun q => by omega, fun q => ?_⟩
        obtain ⟨y, hy, ey⟩ := List.any_eq_true.mp e
        rw [eq_of_beq ey] at hy
        rw [List.nodup_append] at q
        exact absurd rfl (q.2.2 x hy x (by simp))
      · rw [if_neg e]
        refine ⟨fun q => ?_, fun q => ?_⟩
        · rw [List.nodup_append]
          refine ⟨h1.mp (by omega), by simp, fun a ha b hb eab => e ?_⟩
          rw [List.mem_singleton.mp hb] at eab
          rw [eab] at ha
          exact List.any_eq_true.mpr ⟨x, ha, by simp⟩
        · rw [List.nodup_append] at q
          have := h1.mpr q.1
          omega
  exact fun xs => key _ xs rfl
section
variable {prog : Program} {w : World} {A : Around} {R : Result → Shared → Prop} {I : Addr} {fp wr : List Addr} {G : Array GenState → Array GenState → Prop} {n : Nat} {P : Nat → Value → Prop} {St : Nat → Shared → Prop}
/-- the loop of set(texts) -/
theorem fill_texts (W : WalksS prog w A.in1 I fp wr G n P St) (S : Addr) (hSf : S ∉ fp) (xs : List Str) (hsz : xs.length = n) (hn : n + 1 < scanBound) (hval : ∀ i v, P i v → ∃ t, v = .str (xs.getD i Str.empty) t) :
    ∀ (m i : Nat) (s : Shared), n - i = m → i ≤ n → St i s → s.heap.SetOf (strKind prog w) S (fun k => (once (xs.take i)).any (· == k)) (once (xs.take i)).length →
      (∀ s', Moved (S :: wr) G s s' → s'.heap.SetOf (strKind prog w) S (fun k => (once (xs.take n)).any (· == k)) (once (xs.take n)).length → R (.ok (.ret .none)) s') →
      codeAny (model prog w) A (.builtin "set.update.loop" ⟨[.ref S, .ref I], []⟩) R s := by
  have hSw : S ∉ wr := fun h => hSf (W.sub _ h)
  have hsub : ∀ b ∈ wr, b ∈ S :: wr := fun b hb => List.mem_cons_of_mem _ hb
  have carry : ∀ {s s' : Shared} {f : Str → Bool} {c : Nat}, Moved wr G s s' → s.heap.SetOf (strKind prog w) S f c → s'.heap.SetOf (strKind prog w) S f c := fun hm ⟨o, es, ep, t, ho, rest⟩ => ⟨o, es, ep, t, hm.heap S _ hSw ho, rest⟩
  intro m
  induction m with
  | zero =>
    intro i s hk hi hst hS hR
    have hin : i = n := by omega
    subst hin
    refine codeAny_builtin PyProof.Rows.F.entry_set_update_loop ?_
    rw [Around.under_plainId PyProof.Rows.F.plain_set_update_loop _]
    show wpAny _ A.in1 (pyNext (.ref I) >>= _) _ _ s
    refine wpAny_bind (W.done s _ _ hst fun s' hm => ?_)
    show wpAny _ A.in1 (ret Value.none) _ _ s'
    exact wpAny_pure (hR s' (hm.mono hsub) (carry hm hS))
  | succ m ih =>
    intro i s hk hi hst hS hR
    have hlt : i < n := by omega
    refine codeAny_builtin PyProof.Rows.F.entry_set_update_loop ?_
    rw [Around.under_plainId PyProof.Rows.F.plain_set_update_loop _]
    show wpAny _ A.in1 (pyNext (.ref I) >>= _) _ _ s
    refine wpAny_bind (W.item i s _ _ hlt hst fun v s' hP hst' hm => ?_)
    obtain ⟨t, rfl⟩ := hval i v hP
    have hS' := carry hm hS
    have hget : xs[i]? = some (xs.getD i Str.empty) := by
      rw [List.getD_eq_getElem?_getD, List.getElem?_eq_getElem (show i < xs.length by omega)]
      rfl
    have hlen : (once (xs.take i)).length ≤ i := Nat.le_trans (once_len _ _ rfl) (by rw [List.length_take]; omega)
    show wpAny _ A.in1 (holding [Value.str (xs.getD i Str.empty) t] (setAdd S (.str (xs.getD i Str.empty) t)) >>= _) _ _ s'
    refine wpAny_bind (wpAny_holding ?_)
    unfold setAdd
    refine wpAny_holding ?_
    refine wpAny_bind ((strKind prog w).pyHash (k := xs.getD i Str.empty) (strKind_is _ _ _ _) ?_)
    refine wpAny_setAddHashed_of (knd := strKind prog w) (s := { s' with toks := s'.toks + 1 }) (strKind_is _ _ _ _) rfl hS' (by omega) fun h' hsb hS2 => ?_
    have hSi : h'.SetOf (strKind prog w) S (fun k => (once (xs.take (i + 1))).any (· == k)) (once (xs.take (i + 1))).length :=
      SetOf_congr hS2 (fun k => by rw [take_snoc hget, once_snoc, once1_any]) (by rw [take_snoc hget, once_snoc, once1_len])
    refine wpAny_pure ⟨plainId_quiet PyProof.Rows.F.plain_set_update_loop _, ih (i + 1) _ (by omega) hlt (W.frame _ s' _ _ hst' (Nat.le_succ _) fun b hb o e => ?_) hSi fun s'' hm'' hS'' => ?_⟩
    · rw [hsb.2 b (fun h : b = S => hSf (by rw [← h]; exact hb))]; exact e
    · refine hR s'' (Moved.trans W.gtrans ((hm.mono hsub).then_heap (Nat.le_succ _) fun b o hb e => ?_) hm'') hS''
      rw [hsb.2 b (fun h : b = S => hb (by rw [h]; exact List.mem_cons_self))]; exact e
end
section
variable {prog : Program} {w : World} {A : Around} {E : Value → Shared → Prop} {s : Shared}
theorem call_set_texts {l : Addr} {items : Array Value} {xs : List Str} {Q : Value → Shared → Prop} (hh : A.handled = none) (hl : s.heap.IsList l items) (hi : PyProof.Rows.StrsAre items.toList xs) (hn1 : items.size + 1 < scanBound)
    (h : ∀ (h' : Heap) (tk : Nat), h'.SetOf (strKind prog w) s.heap.objs.size (fun k => (once xs).any (· == k)) (once xs).length → (∀ b o, b < s.heap.objs.size → s.heap.get? b = some o → h'.get? b = some o) → Q (.ref s.heap.objs.size) { s with heap := h', toks := tk }) :
    wpAny (model prog w) A (call (.type "set") [.ref l]) Q E s := by
  obtain ⟨c, tl, hmro⟩ := PySem.F.called_set.mro
  have hmade := PySem.F.called_set.made
  have hsub := PySem.F.called_set.sub
  have hsz : xs.length = items.size := by rw [← StrsAre.len_eq hi, Array.length_toList]
  have htk : xs.take items.size = xs := List.take_of_length_le (by omega)
  refine wpAny_call (codeAny_of_tree ?_)
  show wpAny _ _ (callAny (.type "set") _) _ _ _
  refine wpAny_pure ⟨Code.quiet_builtin _ (by decide +kernel), codeAny_builtin PySem.F.entry_type_call ?_⟩
  rw [Around.under_plain (weight_type_call_type "set" [.ref l] []) rfl]
  have h1 := PySem.F.called_set.notType
  have h2 := PySem.F.called_set.canCreate
  have hct := PySem.F.typeCall_set_1 (.ref l)
  repeat (any_goals (first | assumption | wp_step))
  refine codeAny_mono (code_set_new_1 (.ref l) (E := E) (Q₁ := fun obj s₁ => ∃ led : Bool, obj = .ref s.heap.objs.size ∧ s₁ = { s with heap := s.heap.push { cls := .type "set", dict := none, data := .set #[] 0 (.fresh 0 0 led) } }) fun led => ⟨led, rfl, rfl⟩) fun r s₁ hr => ?_
  cases r with
  | error e => exact hr
  | ok fl =>
    cases fl with
    | ret obj =>
      obtain ⟨led, rfl, rfl⟩ := hr
      have hS : (s.heap.push { cls := .type "set", dict := none, data := .set #[] 0 (.fresh 0 0 led) }).get? s.heap.objs.size = some { cls := .type "set", dict := none, data := .set #[] 0 (.fresh 0 0 led) } := Heap.get?_push_size _ rfl
      have hT : Shared.TypeIs { s with heap := s.heap.push { cls := .type "set", dict := none, data := .set #[] 0 (.fresh 0 0 led) } } (.ref s.heap.objs.size) "set" := ⟨_, hS, rfl⟩
      have hli := PySem.F.called_set.init.lookup
      have hbi := PySem.F.called_set.init.bind (.ref s.heap.objs.size)
      repeat (any_goals (first | assumption | wp_step))
      refine codeAny_mono (codeAny_call_builtin (R := wants (fun r s₂ => r = .none ∧ ∃ h' tk, s₂ = { s with heap := h', toks := tk } ∧
          h'.SetOf (strKind prog w) s.heap.objs.size (fun k => (once xs).any (· == k)) (once xs).length ∧
          (∀ b o, b < s.heap.objs.size → s.heap.get? b = some o → h'.get? b = some o)) E) PySem.F.called_set.init.plain PySem.F.entry_set_init (check_set_init_1 hT ?_)) fun r₂ s₂ hr₂ => ?_
      · obtain ⟨ol, hol, hcl, nl, hdl⟩ := hl
        obtain ⟨ocls, odict, odata, oslots⟩ := ol
        simp only at hcl hdl
        subst hcl; subst hdl
        have hol' : (s.heap.push { cls := .type "set", dict := none, data := .set #[] 0 (.fresh 0 0 led) }).get? l = some { cls := .type "list", dict := odict, data := .seq items nl, slots := oslots } := Heap.get?_push_of_some _ hol
        have hsls := PySem.F.sub_list_set
        have hslf := PySem.F.sub_list_frozenset
        have hne : (Value.type "list" == Value.type "dict") = false := by decide
        have hl1 : (s.heap.push { cls := .type "set", dict := none, data := .set #[] 0 (.fresh 0 0 led) }).IsList l items := ⟨_, hol', rfl, nl, rfl⟩
        unfold Builtin.«set.__init__» noKeywords Builtin.Frozenset.updateFrom
        generalize hPI : pyIter = PI
        wp_walk
        subst hPI
        refine wpAny_pyIter_list hl1 ?_
        refine wpAny_bind (wpAny_runValue ?_)
        have hlS : l < s.heap.objs.size := Heap.lt_size hol
        have hh3 : A.in1.in1.in1.handled = none := by simp [hh]
        have hneI : l ≠ (s.heap.push { cls := .type "set", dict := none, data := .set #[] 0 (.fresh 0 0 led) }).objs.size := by
          rw [Heap.size_push]; exact Nat.ne_of_lt (Nat.lt_succ_of_lt hlS)
        have hSf : s.heap.objs.size ∉ [(s.heap.push { cls := .type "set", dict := none, data := .set #[] 0 (.fresh 0 0 led) }).objs.size, l] := by
          rw [Heap.size_push]; simp only [List.mem_cons, List.mem_singleton, List.not_mem_nil, or_false, not_or]
          exact ⟨Nat.ne_of_lt (Nat.lt_succ_self _), Nat.ne_of_gt hlS⟩
        have hval : ∀ (i : Nat) (v : Value), items[i]? = some v → ∃ t, v = .str (xs.getD i Str.empty) t := fun i v hv => SS.strs_at hi i v (by rw [Array.getElem?_toList]; exact hv)
        refine fill_texts ((Walks.list hh3 _ l hneI items).toS) s.heap.objs.size hSf xs hsz hn1 hval (items.size - 0) 0 _ (by omega) (Nat.zero_le _) ⟨⟨_, Heap.get?_push_size _ rfl, rfl, rfl⟩, (hl1.push _)⟩ ?hS0 ?hR
        case hS0 =>
          have hget : ((s.heap.push { cls := .type "set", dict := none, data := .set #[] 0 (.fresh 0 0 led) }).push { cls := .type "list_iterator", data := .fields #[.ref l, .int 0 0] }).get? s.heap.objs.size
              = some { cls := .type "set", dict := none, data := .set #[] 0 (.fresh 0 0 led) } := Heap.get?_push_of_some _ hS
          exact PyProof.Rows.SetOf_congr ((PyProof.Rows.setObjOf_fresh (knd := strKind prog w) led).setOf hget (by unfold scanBound; omega)) (fun _ => rfl) rfl
        case hR =>
          intro s' hm hS'
          rw [htk] at hS'
          obtain ⟨h', g', d', tk', os'⟩ := s'
          have eg : g' = s.gens := hm.gens
          have ed : d' = s.drawn := hm.drawn
          have eo : os' = s.os := hm.os
          subst eg; subst ed; subst eo
          show wpAny _ _ _ _ _ _
          refine wpAny_pure ?_
          show wpAny _ _ (ret Value.none) _ _ _
          refine wpAny_pure ⟨rfl, h', tk', rfl, hS', fun b o hb e => ?_⟩
          have hb1 : b ≠ s.heap.objs.size := Nat.ne_of_lt hb
          have hb2 : b ≠ (s.heap.push { cls := .type "set", dict := none, data := .set #[] 0 (.fresh 0 0 led) }).objs.size := by
            rw [Heap.size_push]; exact Nat.ne_of_lt (Nat.lt_succ_of_lt hb)
          exact hm.heap b o (by simp only [List.mem_cons, List.mem_singleton, List.not_mem_nil, or_false, not_or]; exact ⟨hb1, hb2⟩) (Heap.get?_push_of_some _ (Heap.get?_push_of_some _ e))
      · cases r₂ with
        | error e => exact hr₂
        | ok fl₂ =>
          cases fl₂ with
          | ret r =>
            obtain ⟨rfl, h', tk, rfl, hS', hk'⟩ := hr₂
            repeat (any_goals (first | assumption | wp_step))
            exact h _ _ hS' hk'
          | _ => exact hr₂.elim
    | _ => exact hr.elim
end
section
variable {X : Cx}
def tLenSetS (K : PySem.W.Frag) (ta : TE) : TE := fun σ H Q => ta σ H fun x H1 => ∃ (l : Addr) (xs : List Str), x = .ref l ∧ SqL K H1 l (xs.map V.str) ∧ xs.length ≤ 1000 ∧ Q (.int ((once xs).length : Nat)) H1
theorem pe_lenSetS {a : Expr} {ta : TE} {p p2 q pos : Pos} (hg : Gl X "len") (hm : X.mg "len" = none) (hg2 : Gl X "set") (hm2 : X.mg "set" = none) (ha : PE X a ta) (hc : X.calm = true := by rfl)
    (na : starEach [a] X.env = (false, eval a X.env) :: starEach [] X.env := by rfl) : PE X (.Call (.Name "len" p) [.Call (.Name "set" p2) [a] [] q] [] pos) (tLenSetS X.K ta) := by
  refine ⟨fun pins s σ H Q I h => ?_⟩
  refine Call_ (ld_blt I hg hm boot_len ?_)
  refine PyProof.Rows.callWith_builtin1 (PyProof.Rows.args_cons ?_ rfl) rfl rfl
  refine Call_ (ld_blt I hg2 hm2 boot_set ?_)
  refine PyProof.Rows.callWith_type1 (PyProof.Rows.args_cons (thn (ha.run pins s σ H _ I h) fun v s1 ⟨x, H1, I1, r1, q1⟩ => PyProof.Rows.args_nil ?_) na) na rfl
  obtain ⟨l, xs, rfl, hq, h1, q1⟩ := q1
  cases r1
  obtain ⟨its, r, pl, hz⟩ := I1.list hq
  have hlen : its.toArray.size = xs.length := by rw [List.size_toArray, ← r.length, List.length_map]
  have h2 := once_len _ xs rfl
  refine call_set_texts (I1.ok.hd hc) pl.isList (by simpa using r.strs) (by rw [hlen]; unfold scanBound; omega) fun h' tk hS hk => ?_
  refine PyProof.Rows.args_nil ?_
  obtain ⟨o, es, ep, t, ho, hex, hd, _, _, _, hf, hn⟩ := hS
  have I2 : Inv X pins σ H1 { s1 with heap := h', toks := tk } := I1.kept fun b o e => hk b o (Heap.lt_size e) e
  exact PySem.call_len_set ho hex hd hf (by rw [hn] <;> omega) ⟨.int (once xs).length, H1, I2.tok _, ⟨_, by rw [hn]⟩, q1⟩
end
end SG
/-! grammars: data, and how an instance bears it -/
namespace SG
open PySem PySem.Spec PyProof.Rows L2
/-! ### comprehensions of scalars -/
theorem lc_scal {K : PySem.W.Frag} {a D : Addr} {xs ys : List V} {j : Nat} {te : TE} {vs : List Nat} {σ : L2.St} {H : Hp} {Qd : Hp → Prop} (hx : SqL K H a xs) (hD : H D = none) (hl : ys.length = xs.length) (hz : xs.length ≤ 1000000) (hw : ∀ x, wipe ((wipe σ vs).set j (some x)) vs = wipe σ vs)
    (he : ∀ (i : Nat) (x y : V) (H' : Hp) (Q' : VK), xs[i]? = some x → ys[i]? = some y → Same H H' → (∀ H'', Same H' H'' → Q' y H'') → te ((wipe σ vs).set j (some x)) H' Q')
    (hd : ∀ H', Same H H' → H' D = some (.lst ys) → Qd H') :
    ∃ W : Nat → Nat → Hp → Prop, (∃ m, W 0 m (upd H D (.lst []))) ∧ ∀ i m H, W i m H →
      ((Itl K a).stop i H ∧ Qd H) ∨ ((Itl K a).go i H ∧ ∃ Nx : Hp → Prop, (∀ H', Nx H' → ∃ m', m' < m ∧ W (i + 1) m' H') ∧ ∀ x H', (Itl K a).yld i H x H' → gName j x (wipe σ vs) H' fun σ2 H2 => wipe σ2 vs = wipe σ vs ∧ tYes σ2 H2 fun b H3 =>
        if b = true then te σ2 H3 fun y H4 => ∃ acc, H4 D = some (.lst acc) ∧ acc.length < sizeLine ∧ Nx (upd H4 D (.lst (acc ++ [y]))) else Nx H3) := by
  refine lc_list (xs := xs) (fun i H' => Same H H' ∧ H' D = some (.lst (ys.take i))) ⟨same_new hD, upd_same⟩ (fun i H' _ p => p.1.seq hx) (fun i x H' hi p => ?_) (fun H' p => hd H' p.1 (by rw [p.2, List.take_of_length_le (by omega)]))
  have hlt := (List.getElem?_eq_some_iff.mp hi).1
  have hy : ys[i]? = some (ys[i]'(by omega)) := List.getElem?_eq_getElem (by omega)
  refine ⟨hw x, tyes (iteT ?_)⟩
  refine he i x _ H' _ hi hy p.1 fun H'' e => ⟨_, e _ _ p.2, sl1 (by rw [List.length_take]; omega), same_mut (p.1.trans e) hD, ?_⟩
  rw [upd_same, take_snoc hy]
/-- the same over a text's signs -/
theorem lc_scalS {D : Addr} {z : Str} {ys : List V} {j : Nat} {te : TE} {vs : List Nat} {σ : L2.St} {H : Hp} {Qd : Hp → Prop} (hD : H D = none) (hl : ys.length = z.length) (hz : z.length ≤ 1000000) (hw : ∀ x, wipe ((wipe σ vs).set j (some x)) vs = wipe σ vs)
    (he : ∀ (i : Nat) (c : Nat) (y : V) (H' : Hp) (Q' : VK), z.cps.toList[i]? = some c → ys[i]? = some y → Same H H' → (∀ H'', Same H' H'' → Q' y H'') → te ((wipe σ vs).set j (some (.str ⟨#[c]⟩))) H' Q')
    (hd : ∀ H', Same H H' → H' D = some (.lst ys) → Qd H') :
    ∃ W : Nat → Nat → Hp → Prop, (∃ m, W 0 m (upd H D (.lst []))) ∧ ∀ i m H, W i m H →
      ((Its z).stop i H ∧ Qd H) ∨ ((Its z).go i H ∧ ∃ Nx : Hp → Prop, (∀ H', Nx H' → ∃ m', m' < m ∧ W (i + 1) m' H') ∧ ∀ x H', (Its z).yld i H x H' → gName j x (wipe σ vs) H' fun σ2 H2 => wipe σ2 vs = wipe σ vs ∧ tYes σ2 H2 fun b H3 =>
        if b = true then te σ2 H3 fun y H4 => ∃ acc, H4 D = some (.lst acc) ∧ acc.length < sizeLine ∧ Nx (upd H4 D (.lst (acc ++ [y]))) else Nx H3) := by
  refine lc_it walk_str (fun i H' => Same H H' ∧ H' D = some (.lst (ys.take i))) ⟨same_new hD, upd_same⟩ (fun i H' _ p => trivial) (fun i x H' H2 hi p hy => ?_) (fun H' p => hd H' p.1 (by rw [p.2, List.take_of_length_le (by rw [hl]; exact Nat.le_refl _)]))
  obtain ⟨rfl, c, hc, rfl⟩ := hy
  have hlt : i < z.length := hi
  have hy : ys[i]? = some (ys[i]'(by omega)) := List.getElem?_eq_getElem (by omega)
  refine ⟨hw _, tyes (iteT ?_)⟩
  refine he i c _ H2 _ (by rw [Array.getElem?_toList]; exact hc) hy p.1 fun H'' e => ⟨_, e _ _ p.2, sl1 (by rw [List.length_take]; omega), same_mut (p.1.trans e) hD, ?_⟩
  rw [upd_same, take_snoc hy]
theorem map_get {α β : Type} {f : α → β} {xs : List α} {i : Nat} {x : α} {y : β} (h : xs[i]? = some x) (h' : (xs.map f)[i]? = some y) : y = f x := by
  rw [List.getElem?_map, h] at h'
  exact (Option.some.inj h').symm

theorem paired_app {α β : Type} {F : α → β → Prop} {y : α} {z : β} (h : F y z) : ∀ {xs : List α} {ys : List β}, Paired F xs ys → Paired F (xs ++ [y]) (ys ++ [z])
  | _, _, .nil => .cons h .nil
  | _, _, .cons h1 t => .cons h1 (paired_app h t)
theorem putK_le (kvs : List (Key × V)) (k : Key) (v : V) : (putK kvs k v).length ≤ kvs.length + 1 := by
  unfold putK
  split
  · rw [List.length_map]; omega
  · rw [List.length_append]; exact Nat.le_refl _

/-! ### names, letters -/
abbrev abcS : Str := "abcdefghijklmnopqrstuvwxyz"
theorem abcL : abcS.cps.toList = (List.range 26).map (97 + ·) := by decide +kernel
def isSmall (x : Str) : Bool := x.cps.toList.all fun c => decide (c ∈ abcS.cps.toList)
def isName (x : Str) : Bool := decide (1 ≤ x.length) && decide (x.length ≤ 8) && isSmall x && decide (x ≠ ("names" : Str))
def isLetter (x : Str) : Bool := decide (x.length = 1) && isSmall x
def areNames (xs : List Str) : Bool := decide (1 ≤ xs.length) && decide (xs.length ≤ 6) && decide (xs.Nodup) && xs.all isName
abbrev Rule := Str × Str × List Str
/-- the rules of a name, in their order -/
def rulesOf (rs : List Rule) (n : Str) : List (Str × List Str) := (rs.filter fun r => decide (r.1 = n)).map (·.2)
def letsBy (names : List Str) (rs : List Rule) (r : Rule) : Bool :=
  decide (r.1 ∈ names) && isLetter r.2.1 && decide (r.2.2.length ≤ 3) && r.2.2.all (fun x => decide (x ∈ names)) && decide ((rulesOf rs r.1).length < 4) && decide (r.2 ∉ rulesOf rs r.1)
/-- all rules are let by, one behind the other -/
def rulesOk (names : List Str) (rs : List Rule) : Prop := ∀ i r, rs[i]? = some r → letsBy names (rs.take i) r = true
theorem rulesOf_snoc (rs : List Rule) (r : Rule) (n : Str) : rulesOf (rs ++ [r]) n = if r.1 = n then rulesOf rs n ++ [r.2] else rulesOf rs n := by
  unfold rulesOf
  rw [List.filter_append, List.map_append]
  by_cases e : r.1 = n
  · rw [if_pos e]; simp [e]
  · rw [if_neg e]; simp [e]

/-! ### how an instance bears it -/
def RuleAt (H : Hp) (t : Addr) (p : Str × List Str) : Prop := ∃ w, H t = some (.tup [.str p.1, .ref w]) ∧ H w = some (.lst (p.2.map V.str))
def ListAt (H : Hp) (l : Addr) (ps : List (Str × List Str)) : Prop := ∃ ts : List Addr, H l = some (.lst (ts.map V.ref)) ∧ Paired (RuleAt H) ts ps
def zipK (names : List Str) (ls : List Addr) : List (Key × V) := List.zipWith (fun n l => ((Sum.inr n : Key), V.ref l)) names ls
def StoredAt (H : Hp) (st : Addr) (names : List Str) (ls : List Addr) (f : Str → List (Str × List Str)) : Prop := H st = some (.dK (zipK names ls)) ∧ Paired (fun n l => ListAt H l (f n)) names ls ∧ ls.Nodup
def gfs (kn st od : Addr) : List (Str × V) := putF "order" (.ref od) (putF "stored" (.ref st) (putF "known" (.ref kn) []))
structure GramAt (C : Addr) (H : Hp) (g : Addr) (names : List Str) (rs : List Rule) : Prop where
  ex : ∃ dx kn st od ls, H g = some (.ins C dx (gfs kn st od)) ∧ H kn = some (.lst (names.map V.str)) ∧ StoredAt H st names ls (rulesOf rs) ∧ H od = some (.lst ((rs.map (·.1)).map V.str))
theorem k_so : ¬ (("stored" : Str) = "order") := by decide +kernel
theorem k_ko : ¬ (("known" : Str) = "order") := by decide +kernel
theorem k_ks : ¬ (("known" : Str) = "stored") := by decide +kernel
theorem gfs_known (kn st od : Addr) : (gfs kn st od).lookup ("known" : Str) = some (.ref kn) := by
  unfold gfs
  rw [lookup_putF, if_neg k_ko, lookup_putF, if_neg k_ks, lookup_putF, if_pos rfl]
theorem gfs_stored (kn st od : Addr) : (gfs kn st od).lookup ("stored" : Str) = some (.ref st) := by
  unfold gfs
  rw [lookup_putF, if_neg k_so, lookup_putF, if_pos rfl]
theorem gfs_order (kn st od : Addr) : (gfs kn st od).lookup ("order" : Str) = some (.ref od) := by
  unfold gfs
  rw [lookup_putF, if_pos rfl]
theorem gfs_no (kn st od : Addr) {m : Str} (h1 : ¬ m = "known") (h2 : ¬ m = "stored") (h3 : ¬ m = "order") : (gfs kn st od).lookup m = none := by
  unfold gfs
  rw [lookup_putF, if_neg h3, lookup_putF, if_neg h2, lookup_putF, if_neg h1]
  rfl
theorem RuleAt.same {H H' : Hp} (e : Same H H') {t : Addr} {p : Str × List Str} (h : RuleAt H t p) : RuleAt H' t p := by
  obtain ⟨w, h1, h2⟩ := h
  exact ⟨w, e _ _ h1, e _ _ h2⟩
theorem ListAt.same {H H' : Hp} (e : Same H H') {l : Addr} {ps : List (Str × List Str)} (h : ListAt H l ps) : ListAt H' l ps := by
  obtain ⟨ts, h1, h2⟩ := h
  exact ⟨ts, e _ _ h1, Paired.mapP h2 fun _ _ => RuleAt.same e⟩
theorem StoredAt.same {H H' : Hp} (e : Same H H') {st : Addr} {names : List Str} {ls : List Addr} {f : Str → List (Str × List Str)} (h : StoredAt H st names ls f) : StoredAt H' st names ls f :=
  ⟨e _ _ h.1, Paired.mapP h.2.1 fun _ _ => ListAt.same e, h.2.2⟩
theorem GramAt.same {C : Addr} {H H' : Hp} (e : Same H H') {g : Addr} {names : List Str} {rs : List Rule} (h : GramAt C H g names rs) : GramAt C H' g names rs := by
  obtain ⟨dx, kn, st, od, ls, h1, h2, h3, h4⟩ := h.ex
  exact ⟨dx, kn, st, od, ls, e _ _ h1, e _ _ h2, h3.same e, e _ _ h4⟩
/-- looking a name up -/
theorem zipK_val : ∀ {names : List Str} {ls : List Addr}, names.length = ls.length → ∀ n : Str, (valV (zipK names ls) (Sum.inr n : Key) = none ∧ n ∉ names) ∨ ∃ (i : Nat) (l : Addr), names[i]? = some n ∧ ls[i]? = some l ∧ valV (zipK names ls) (Sum.inr n : Key) = some (.ref l) ∧ n ∈ names
  | [], [], _, n => .inl ⟨rfl, by simp⟩
  | x :: names, l :: ls, h, n => by
    unfold zipK
    rw [List.zipWith_cons_cons]
    by_cases e : x = n
    · exact .inr ⟨0, l, by rw [e]; rfl, rfl, valV_pos (by rw [e]), by rw [e]; exact List.mem_cons_self⟩
    · have ne : ¬ ((Sum.inr x : Key) = Sum.inr n) := fun z => e (Sum.inr.inj z)
      rw [valV_neg ne]
      rcases zipK_val (names := names) (ls := ls) (by simpa using h) n with ⟨h1, h2⟩ | ⟨i, l', h1, h2, h3, h4⟩
      · exact .inl ⟨h1, by rw [List.mem_cons, not_or]; exact ⟨fun q => e q.symm, h2⟩⟩
      · exact .inr ⟨i + 1, l', h1, h2, h3, List.mem_cons_of_mem _ h4⟩
theorem paired_ix {α β : Type} {F : α → β → Prop} : ∀ {xs : List α} {ys : List β}, Paired F xs ys → ∀ {i : Nat} {x : α} {y : β}, xs[i]? = some x → ys[i]? = some y → F x y
  | _, _, .nil, i, x, y, h, _ => by simp at h
  | _, _, .cons h t, 0, x, y, h1, h2 => by
    have e1 := Option.some.inj h1
    have e2 := Option.some.inj h2
    subst e1 e2
    exact h
  | _, _, .cons h t, i + 1, x, y, h1, h2 => paired_ix t h1 h2
theorem StoredAt.look {H : Hp} {st : Addr} {names : List Str} {ls : List Addr} {f : Str → List (Str × List Str)} (h : StoredAt H st names ls f) (n : Str) :
    (valV (zipK names ls) (Sum.inr n : Key) = none ∧ n ∉ names) ∨ ∃ (i : Nat) (l : Addr), names[i]? = some n ∧ ls[i]? = some l ∧ valV (zipK names ls) (Sum.inr n : Key) = some (.ref l) ∧ n ∈ names ∧ ListAt H l (f n) := by
  rcases zipK_val (paired_len h.2.1) n with h1 | ⟨i, l, h1, h2, h3, h4⟩
  · exact .inl h1
  · exact .inr ⟨i, l, h1, h2, h3, h4, paired_ix h.2.1 h1 h2⟩
/-- a list of rules as it is handed in -/
def TrioAt (H : Hp) (t : Addr) (r : Rule) : Prop := ∃ w, H t = some (.tup [.str r.1, .str r.2.1, .ref w]) ∧ H w = some (.lst (r.2.2.map V.str))
def TriosAt (H : Hp) (l : Addr) (rs : List Rule) : Prop := ∃ ts : List Addr, H l = some (.lst (ts.map V.ref)) ∧ Paired (TrioAt H) ts rs
theorem TrioAt.same {H H' : Hp} (e : Same H H') {t : Addr} {p : Rule} (h : TrioAt H t p) : TrioAt H' t p := by
  obtain ⟨w, h1, h2⟩ := h
  exact ⟨w, e _ _ h1, e _ _ h2⟩
theorem TriosAt.same {H H' : Hp} (e : Same H H') {l : Addr} {ps : List Rule} (h : TriosAt H l ps) : TriosAt H' l ps := by
  obtain ⟨ts, h1, h2⟩ := h
  exact ⟨ts, e _ _ h1, Paired.mapP h2 fun _ _ => TrioAt.same e⟩
abbrev eRow : (Str × List Str) → PyData := e2 PyData.str eSs
abbrev eTrio : Rule → PyData := e3 PyData.str PyData.str eSs
theorem enc_Row : Enc eRow := enc_2 enc_str enc_Ss
theorem enc_Trio : Enc eTrio := enc_3 enc_str enc_str enc_Ss
theorem dep_Row : Dep eRow 2 := dep_2 dep_str dep_Ss
theorem dep_Trio : Dep eTrio 2 := dep_3 dep_str dep_str dep_Ss
theorem dp_row {K : PySem.W.Frag} {H : Hp} {t : Addr} {p : Str × List Str} (h : RuleAt H t p) : Dp K H (.ref t) (eRow p) := by
  obtain ⟨w, h1, h2⟩ := h
  exact .tup (SqT.of h1) (.cons (.str _) (.cons (dp_Ss h2) .nil))
theorem dp_trio {K : PySem.W.Frag} {H : Hp} {t : Addr} {p : Rule} (h : TrioAt H t p) : Dp K H (.ref t) (eTrio p) := by
  obtain ⟨w, h1, h2⟩ := h
  exact .tup (SqT.of h1) (.cons (.str _) (.cons (.str _) (.cons (dp_Ss h2) .nil)))
theorem dpAll_paired {α : Type} {K : PySem.W.Frag} {H : Hp} {F : Addr → α → Prop} {e : α → PyData} (k : ∀ t p, F t p → Dp K H (.ref t) (e p)) : ∀ {ts : List Addr} {ps : List α}, Paired F ts ps → DpAll K H (ts.map V.ref) (ps.map e)
  | _, _, .nil => .nil
  | _, _, .cons h t => .cons (k _ _ h) (dpAll_paired k t)
theorem dp_rows {K : PySem.W.Frag} {H : Hp} {l : Addr} {ps : List (Str × List Str)} (h : ListAt H l ps) : Dp K H (.ref l) (eL eRow ps) := by
  obtain ⟨ts, h1, h2⟩ := h
  exact .lst (SqL.of h1) (dpAll_paired (e := eRow) (fun _ _ => dp_row) h2)
theorem dp_trios {K : PySem.W.Frag} {H : Hp} {l : Addr} {ps : List Rule} (h : TriosAt H l ps) : Dp K H (.ref l) (eL eTrio ps) := by
  obtain ⟨ts, h1, h2⟩ := h
  exact .lst (SqL.of h1) (dpAll_paired (e := eTrio) (fun _ _ => dp_trio) h2)
/-- a new list of new rows -/
def NewRows (H H' : Hp) (p : Addr) (ps : List (Str × List Str)) : Prop := H p = none ∧ Same H H' ∧ ∃ ts : List Addr, H' p = some (.lst (ts.map V.ref)) ∧ Paired (fun t (r : Str × List Str) => H t = none ∧ ∃ w, H w = none ∧ H' t = some (.tup [.str r.1, .ref w]) ∧ H' w = some (.lst (r.2.map V.str))) ts ps
theorem NewRows.at_ {H H' : Hp} {p : Addr} {ps : List (Str × List Str)} (h : NewRows H H' p ps) : ListAt H' p ps := by
  obtain ⟨_, _, ts, h1, h2⟩ := h
  exact ⟨ts, h1, Paired.mapP h2 fun _ _ ⟨_, w, _, h3, h4⟩ => ⟨w, h3, h4⟩⟩
/-- a new list of new trios -/
def NewTrios (H H' : Hp) (p : Addr) (rs : List Rule) : Prop := H p = none ∧ Same H H' ∧ ∃ ts : List Addr, H' p = some (.lst (ts.map V.ref)) ∧ Paired (fun t (r : Rule) => H t = none ∧ ∃ w, H w = none ∧ H' t = some (.tup [.str r.1, .str r.2.1, .ref w]) ∧ H' w = some (.lst (r.2.2.map V.str))) ts rs
theorem NewTrios.at_ {H H' : Hp} {p : Addr} {ps : List Rule} (h : NewTrios H H' p ps) : TriosAt H' p ps := by
  obtain ⟨_, _, ts, h1, h2⟩ := h
  exact ⟨ts, h1, Paired.mapP h2 fun _ _ ⟨_, w, _, h3, h4⟩ => ⟨w, h3, h4⟩⟩
end SG
/-! what the laws' own helpers speak of: digits, states, called names -/
namespace SG
open PySem PySem.Spec PyProof.Rows L2
/-- digits of the law's: from 0 to 1008 -/
def Digs (ns : List Int) : Prop := ∀ x ∈ ns, 0 ≤ x ∧ x < 1009
def sp_digits : Sp := fun vs H Q _ => ∃ c n : Int, vs = [.int c, .int n] ∧ 0 < n ∧ n ≤ 1000 ∧ ∀ p H' (ns : List Int), Same H H' → H p = none → H' p = some (.lst (ns.map V.int)) → (ns.length : Int) = n → Digs ns → Q (.ref p) H'
theorem Digs.snoc {ns : List Int} {x : Int} (h : Digs ns) (h0 : 0 ≤ x) (h1 : x < 1009) : Digs (ns ++ [x]) := fun y hy => by
  rcases List.mem_append.mp hy with hy | hy
  · exact h y hy
  · rw [List.mem_singleton.mp hy]; exact ⟨h0, h1⟩
/-! ### the law's state: its digits, its place -/
def StAt (H : Hp) (s d : Addr) : Prop := d ≠ s ∧ (∃ k : Int, H s = some (.lst [.ref d, .int k])) ∧ ∃ ns : List Int, H d = some (.lst (ns.map V.int)) ∧ ns ≠ [] ∧ ns.length ≤ 1000 ∧ Digs ns
/-- all but s is kept -/
def But (s : Addr) (H H' : Hp) : Prop := ∀ a o, a ≠ s → H a = some o → H' a = some o
theorem But.refl (s : Addr) (H : Hp) : But s H H := fun _ _ _ h => h
theorem But.trans {s : Addr} {H H1 H2 : Hp} (a : But s H H1) (b : But s H1 H2) : But s H H2 := fun x o n h => b x o n (a x o n h)
theorem But.same {s : Addr} {H H1 H2 : Hp} (a : But s H H1) (b : Same H1 H2) : But s H H2 := fun x o n h => b x o (a x o n h)
theorem but_of_same {s : Addr} {H H1 : Hp} (b : Same H H1) : But s H H1 := fun x o _ h => b x o h
/-- a cell that H does not know may change -/
theorem But.cell {s p : Addr} {H H1 : Hp} (a : But s H H1) (hp : H p = none) (o : HO) : But s H (upd H1 p o) := fun x u n h => by rw [upd_ne (ne_of_none h hp)]; exact a x u n h
theorem But.own {s : Addr} {H H1 : Hp} (a : But s H H1) (o : HO) : But s H (upd H1 s o) := fun x u n h => by rw [upd_ne n]; exact a x u n h
theorem StAt.s_some {H : Hp} {s d : Addr} (h : StAt H s d) : ∃ o, H s = some o := let ⟨_, ⟨_, h⟩, _⟩ := h; ⟨_, h⟩
theorem StAt.d_some {H : Hp} {s d : Addr} (h : StAt H s d) : ∃ o, H d = some o := let ⟨_, _, _, h, _⟩ := h; ⟨_, h⟩
theorem But.free {s d : Addr} {H H' : Hp} (a : But s H H') (h : StAt H' s d) {p : Addr} (hp : H' p = none) : H p = none := by
  cases e : H p with
  | none => rfl
  | some o =>
    by_cases n : p = s
    · obtain ⟨o', h⟩ := h.s_some
      rw [n, h] at hp
      cases hp
    · rw [a p o n e] at hp
      cases hp
theorem StAt.same {H H' : Hp} {s d : Addr} (h : StAt H s d) (e : Same H H') : StAt H' s d := by
  obtain ⟨n, ⟨k, h1⟩, ns, h2, r⟩ := h
  exact ⟨n, ⟨k, e _ _ h1⟩, ns, e _ _ h2, r⟩
theorem StAt.cell {H H0 : Hp} {s d p : Addr} (h : StAt H s d) {o : HO} (h0 : StAt H0 s d) (hp : H0 p = Option.none) : StAt (upd H p o) s d := by
  obtain ⟨n, ⟨k, h1⟩, ns, h2, r⟩ := h
  obtain ⟨os, g1⟩ := h0.s_some
  obtain ⟨od, g2⟩ := h0.d_some
  exact ⟨n, ⟨k, by rw [upd_ne (ne_of_none g1 hp)]; exact h1⟩, ns, by rw [upd_ne (ne_of_none g2 hp)]; exact h2, r⟩
def sp_next : Sp := fun vs H Q _ => ∃ s d : Addr, vs = [.ref s] ∧ StAt H s d ∧ ∀ (j : Int) H', 0 ≤ j → j < 1009 → But s H H' → StAt H' s d → Q (.int j) H'
/-- small letters -/
def Smalls (l : List Nat) : Prop := ∀ c ∈ l, 97 ≤ c ∧ c < 123
theorem abc : (("abcdefghijklmnopqrstuvwxyz" : Str)).cps.toList = (List.range 26).map (97 + ·) := by decide +kernel
theorem abc6 : (("abcdef" : Str)).cps.toList = (List.range 6).map (97 + ·) := by decide +kernel
/-- the i-th name: a word of at most seven letters and the i-th letter -/
def CalledAt (i : Nat) (x : Str) : Prop := ∃ l : List Nat, x = ⟨(l ++ [97 + i]).toArray⟩ ∧ l.length ≤ 7 ∧ Smalls l
def Called (n : Nat) (xs : List Str) : Prop := xs.length = n ∧ ∀ i x, xs[i]? = some x → CalledAt i x
def sp_called : Sp := fun vs H Q _ => ∃ (s d : Addr) (n : Nat), vs = [.ref s, .int n] ∧ n ≤ 6 ∧ StAt H s d ∧ ∀ p H' (xs : List Str), H p = none → But s H H' → StAt H' s d → H' p = some (.lst (xs.map V.str)) → Called n xs → Q (.ref p) H'
theorem letter_at {i : Int} (h0 : 0 ≤ i) (h1 : i < 26) : atI (("abcdefghijklmnopqrstuvwxyz" : Str)).cps.toList i = some (97 + i.toNat) := by
  rw [atI_eq h0 (by rw [abc]; simpa using h1), abc, List.getElem?_map, List.getElem?_range (by omega)]
  rfl
theorem letter6_at {i : Int} (h0 : 0 ≤ i) (h1 : i < 6) : atI (("abcdef" : Str)).cps.toList i = some (97 + i.toNat) := by
  rw [atI_eq h0 (by rw [abc6]; simpa using h1), abc6, List.getElem?_map, List.getElem?_range (by omega)]
  rfl
theorem StAt.ne_strs {H : Hp} {s d a : Addr} {ms : List Str} (h : StAt H s d) (e : H a = some (.lst (ms.map V.str))) : a ≠ s := fun q => by
  obtain ⟨_, ⟨k, h1⟩, _⟩ := h
  rw [q, h1] at e
  cases ms with
  | nil => cases e
  | cons x r => cases e
theorem StAt.ne_dk {H : Hp} {s d a : Addr} {kvs : List (Key × V)} (h : StAt H s d) (e : H a = some (.dK kvs)) : a ≠ s := fun q => by
  obtain ⟨_, ⟨k, h1⟩, _⟩ := h
  rw [q, h1] at e
  cases e
theorem But.under {s : Addr} {H H' H1 : Hp} (a : But s H H') (h : H1 s = none) (e : Same H1 H) : Same H1 H' := fun x o g => a x o (ne_of_none g h) (e x o g)

def sp_drawn : Sp := fun vs H Q _ => ∃ (s d a : Addr) (xs : List Str) (m : Nat), vs = [.ref s, .ref a, .int m] ∧ m ≤ 1000 ∧ xs.length ≤ 1000 ∧ StAt H s d ∧ H a = some (.lst (xs.map V.str)) ∧ ∀ p H' (row : List Str), H p = none → But s H H' → StAt H' s d → H' p = some (.lst (row.map V.str)) → row.length ≤ m → (∀ x ∈ row, x ∈ xs) → Q (.ref p) H'
/-! ### drawn grammars -/
/-- the rules of a drawn grammar -/
structure GoodR (names : List Str) (rs : List Rule) : Prop where
  nd : rs.Nodup
  ok : ∀ r ∈ rs, r.1 ∈ names ∧ isLetter r.2.1 = true ∧ r.2.2.length ≤ 3 ∧ ∀ x ∈ r.2.2, x ∈ names
  few : ∀ n, (rulesOf rs n).length ≤ 4
theorem rulesOf_perm {rs qs : List Rule} (h : rs.Perm qs) (n : Str) : (rulesOf rs n).Perm (rulesOf qs n) := (h.filter _).map _
theorem GoodR.perm {names ns : List Str} {rs qs : List Rule} (g : GoodR names rs) (hn : ∀ x, x ∈ names → x ∈ ns) (h : rs.Perm qs) : GoodR ns qs where
  nd := h.nodup_iff.mp g.nd
  ok := fun r hr => let ⟨a, b, c, d⟩ := g.ok r (h.mem_iff.mpr hr); ⟨hn _ a, b, c, fun x hx => hn _ (d x hx)⟩
  few := fun n => by rw [← (rulesOf_perm h n).length_eq]; exact g.few n
theorem mem_rulesOf {rs : List Rule} {n : Str} {p : Str × List Str} : p ∈ rulesOf rs n ↔ (n, p) ∈ rs := by
  unfold rulesOf
  rw [List.mem_map]
  constructor
  · rintro ⟨r, hr, rfl⟩
    rw [List.mem_filter, decide_eq_true_eq] at hr
    rw [← hr.2]
    exact hr.1
  · intro h
    exact ⟨(n, p), List.mem_filter.mpr ⟨h, decide_eq_true rfl⟩, rfl⟩
theorem rulesOf_take_lt : ∀ {rs : List Rule} {i : Nat} {r : Rule}, rs[i]? = some r → (rulesOf (rs.take i) r.1).length < (rulesOf rs r.1).length
  | [], i, r, h => by simp at h
  | x :: rs, 0, r, h => by
    have e : x = r := Option.some.inj h
    subst e
    unfold rulesOf
    simp
  | x :: rs, i + 1, r, h => by
    have ih := rulesOf_take_lt (rs := rs) (i := i) (r := r) (by simpa using h)
    rw [List.take_succ_cons]
    unfold rulesOf at *
    by_cases e : x.1 = r.1
    · simp only [List.filter_cons, e, decide_true, if_true, List.map_cons, List.length_cons]
      omega
    · simp only [List.filter_cons, e, decide_false, Bool.false_eq_true, if_false]
      exact ih
theorem not_mem_take_nd {α : Type} {xs : List α} {i : Nat} {x : α} (h : xs.Nodup) (e : xs[i]? = some x) : x ∉ xs.take i := fun m => by
  have hd := List.take_append_drop i xs
  have hx : x ∈ xs.drop i := by
    obtain ⟨hl, hx⟩ := List.getElem?_eq_some_iff.mp e
    rw [List.drop_eq_getElem_cons hl, hx]
    exact List.mem_cons_self
  rw [← hd, List.nodup_append] at h
  exact h.2.2 x m x hx rfl
theorem GoodR.rulesOk {names : List Str} {rs : List Rule} (g : GoodR names rs) : rulesOk names rs := fun i r h => by
  have hm := List.mem_of_getElem? h
  obtain ⟨a, b, c, d⟩ := g.ok r hm
  have h4 := rulesOf_take_lt h
  have h5 := g.few r.1
  have h6 : r.2 ∉ rulesOf (rs.take i) r.1 := fun z => not_mem_take_nd g.nd h (by rw [mem_rulesOf] at z; exact z)
  unfold letsBy
  simp only [Bool.and_eq_true, decide_eq_true_eq, List.all_eq_true]
  exact ⟨⟨⟨⟨⟨a, b⟩, c⟩, d⟩, by omega⟩, h6⟩
/-- names up to the k-th have four rules at most, the k-th has c, those behind have one -/
def FewR (names : List Str) (rs : List Rule) (k c : Nat) : Prop := ∀ (i : Nat) n, names[i]? = some n → (rulesOf rs n).length ≤ if i < k then 4 else if i = k then c else 1
theorem FewR.put {names : List Str} {rs : List Rule} {k c : Nat} {r : Rule} (h : FewR names rs k c) (nd : names.Nodup) (e : names[k]? = some r.1) : FewR names (rs ++ [r]) k (c + 1) := fun i n hi => by
  have := h i n hi
  rw [rulesOf_snoc]
  by_cases c1 : r.1 = n
  · have e2 : i = k := nd_ix nd hi (c1 ▸ e)
    subst e2
    rw [if_pos c1, List.length_append]
    simp only [Nat.lt_irrefl, if_false, if_true, List.length_cons, List.length_nil] at this ⊢
    omega
  · rw [if_neg c1]
    split <;> rename_i h1
    · rw [if_pos h1] at this; exact this
    · rw [if_neg h1] at this
      split <;> rename_i h2
      · rw [if_pos h2] at this; omega
      · rw [if_neg h2] at this; exact this
theorem FewR.up {names : List Str} {rs : List Rule} {k c : Nat} (h : FewR names rs k c) : FewR names rs k (c + 1) := fun i n hi => by
  have := h i n hi
  split <;> rename_i h1
  · rw [if_pos h1] at this; exact this
  · rw [if_neg h1] at this
    split <;> rename_i h2
    · rw [if_pos h2] at this; omega
    · rw [if_neg h2] at this; exact this
theorem FewR.next {names : List Str} {rs : List Rule} {k c : Nat} (h : FewR names rs k c) (hc : c ≤ 4) : FewR names rs (k + 1) 1 := fun i n hi => by
  have := h i n hi
  split <;> rename_i h1
  · split at this
    · exact this
    · split at this
      · omega
      · omega
  · have h2 : ¬ i < k := by omega
    have h3 : ¬ i = k := by omega
    rw [if_neg h2, if_neg h3] at this
    split <;> exact this
theorem GoodR.of {names : List Str} {rs : List Rule} {k : Nat} (nd : rs.Nodup) (ok : ∀ r ∈ rs, r.1 ∈ names ∧ isLetter r.2.1 = true ∧ r.2.2.length ≤ 3 ∧ ∀ x ∈ r.2.2, x ∈ names) (h : FewR names rs k 1) : GoodR names rs := ⟨nd, ok, fun n => by
  by_cases hn : n ∈ names
  · obtain ⟨i, hi⟩ := List.mem_iff_getElem?.mp hn
    have := h i n hi
    split at this
    · exact this
    · split at this <;> omega
  · have e : rulesOf rs n = [] := by
      rw [List.eq_nil_iff_forall_not_mem]
      intro p hp
      exact hn (ok _ (mem_rulesOf.mp hp)).1
    rw [e]
    exact Nat.zero_le _⟩
theorem FewR.first {names : List Str} {rs : List Rule} (nd : names.Nodup) (e : rs.map (·.1) = names) : FewR names rs 0 1 := fun i n hi => by
  have h1 : (rulesOf rs n).length ≤ 1 := by
    have h2 : (rulesOf rs n).length = ((rs.map (·.1)).filter fun x => decide (x = n)).length := by
      unfold rulesOf
      rw [List.length_map, List.filter_map, List.length_map]
      rfl
    rw [h2, e]
    have h3 := nd.filter fun x => decide (x = n)
    have h4 : ∀ x ∈ names.filter (fun x => decide (x = n)), x = n := fun x hx => by simpa using (List.mem_filter.mp hx).2
    match h5 : names.filter (fun x => decide (x = n)) with
    | [] => exact Nat.zero_le _
    | [x] => exact Nat.le_refl _
    | x :: y :: t =>
      rw [h5] at h3 h4
      have e1 := h4 x List.mem_cons_self
      have e2 := h4 y (List.mem_cons_of_mem _ List.mem_cons_self)
      exact absurd (e1.trans e2.symm) ((List.pairwise_cons.mp h3).1 y List.mem_cons_self)
  split
  · omega
  · split <;> exact h1
/-! called names are names -/
theorem small_list {l : List Nat} (h : Smalls l) : isSmall ⟨l.toArray⟩ = true := by
  unfold isSmall
  rw [List.all_eq_true]
  intro c hc
  have h2 := h c (by simpa using hc)
  rw [decide_eq_true_eq, abcL, List.mem_map]
  exact ⟨c - 97, by rw [List.mem_range]; omega, by omega⟩
theorem CalledAt.name {i : Nat} {x : Str} (hi : i < 6) (h : CalledAt i x) : isName x = true := by
  obtain ⟨l, rfl, hl, hs⟩ := h
  have h1 : (⟨(l ++ [97 + i]).toArray⟩ : Str).length = l.length + 1 := by
    show (l ++ [97 + i]).toArray.size = _
    simp
  have hs2 : Smalls (l ++ [97 + i]) := fun c hc => by
    rcases List.mem_append.mp hc with hc | hc
    · exact hs c hc
    · rw [List.mem_singleton.mp hc]; omega
  have hne : (⟨(l ++ [97 + i]).toArray⟩ : Str) ≠ ("names" : Str) := fun e => by
    have e2 : l ++ [97 + i] = ("names" : Str).cps.toList := by rw [← e]
    have e3 : ("names" : Str).cps.toList = [110, 97, 109, 101] ++ [115] := by decide +kernel
    rw [e3] at e2
    have e4 := (List.append_inj' e2 rfl).2
    simp at e4
    omega
  unfold isName
  simp only [Bool.and_eq_true, decide_eq_true_eq]
  exact ⟨⟨⟨by omega, by omega⟩, small_list hs2⟩, hne⟩
theorem CalledAt.inj {i j : Nat} {x : Str} (h : CalledAt i x) (h' : CalledAt j x) : i = j := by
  obtain ⟨l, rfl, _, _⟩ := h
  obtain ⟨m, e, _, _⟩ := h'
  have e2 : l ++ [97 + i] = m ++ [97 + j] := by
    have := congrArg (fun z : Str => z.cps.toList) e
    simpa using this
  have e4 := (List.append_inj' e2 rfl).2
  simp at e4
  omega
theorem Called.nd {n : Nat} {xs : List Str} (h : Called n xs) : xs.Nodup := by
  refine List.pairwise_iff_getElem.mpr fun i j hi hj hij e => ?_
  have h1 : xs[i]? = some xs[j] := by rw [← e]; exact List.getElem?_eq_getElem hi
  have := (h.2 i _ h1).inj (h.2 j _ (List.getElem?_eq_getElem hj))
  omega
theorem Called.names {n : Nat} {xs : List Str} (h : Called n xs) (h0 : 1 ≤ n) (h6 : n ≤ 6) : areNames xs = true := by
  have h1 := h.1
  unfold areNames
  simp only [Bool.and_eq_true, decide_eq_true_eq, List.all_eq_true]
  refine ⟨⟨⟨by omega, by omega⟩, h.nd⟩, fun x hx => ?_⟩
  obtain ⟨i, hi⟩ := List.mem_iff_getElem?.mp hx
  have := (List.getElem?_eq_some_iff.mp hi).1
  exact (h.2 i x hi).name (by omega)
theorem Called.mem_at {n : Nat} {xs : List Str} (h : Called n xs) (h6 : n ≤ 6) {x : Str} (hx : x ∈ xs) : ∃ i, i < 6 ∧ CalledAt i x := by
  obtain ⟨i, hi⟩ := List.mem_iff_getElem?.mp hx
  have := (List.getElem?_eq_some_iff.mp hi).1
  have := h.1
  exact ⟨i, by omega, h.2 i x hi⟩
theorem areNames_perm {xs ys : List Str} (h : xs.Perm ys) (e : areNames xs = true) : areNames ys = true := by
  unfold areNames at *
  simp only [Bool.and_eq_true, decide_eq_true_eq, List.all_eq_true] at *
  obtain ⟨⟨⟨a, b⟩, c⟩, d⟩ := e
  rw [← h.length_eq]
  exact ⟨⟨⟨a, b⟩, h.nodup_iff.mp c⟩, fun x hx => d x (h.mem_iff.mpr hx)⟩
theorem isName_len {x : Str} (h : isName x = true) : x.length ≤ 8 := by
  unfold isName at h
  simp only [Bool.and_eq_true, decide_eq_true_eq] at h
  exact h.1.1.2
theorem areNames_len {xs : List Str} (e : areNames xs = true) : ∀ x ∈ xs, x.length ≤ 8 := fun x hx => by
  unfold areNames at e
  simp only [Bool.and_eq_true, List.all_eq_true] at e
  exact isName_len (e.2 x hx)
theorem isLetter_len {x : Str} (e : isLetter x = true) : x.length = 1 := by
  unfold isLetter at e
  simp only [Bool.and_eq_true, decide_eq_true_eq] at e
  exact e.1
theorem letters_ok : ∀ z ∈ ([("a" : Str), "ab", "xyz", "ab"]), z.length ≤ 3 ∧ 0 < z.cps.toList.length ∧ ∀ c ∈ z.cps.toList, isLetter ⟨#[c]⟩ = true := by
  decide +kernel
theorem turned_perm {α : Type} (xs : List α) (i : Nat) : xs.Perm (xs.drop i ++ xs.take i) := by
  have h := List.perm_append_comm (l₁ := xs.take i) (l₂ := xs.drop i)
  rw [List.take_append_drop] at h
  exact h
/-- a list of texts is no list of cells -/
theorem strs_refs {xs : List Str} {ts : List Addr} (e : (HO.lst (xs.map V.str)) = .lst (ts.map V.ref)) : ts = [] := by
  cases ts with
  | nil => rfl
  | cons t r => cases xs with
    | nil => cases e
    | cons x q => cases e

/-! ### a grammar in the drawing -/
theorem StAt.ne_refs {H : Hp} {s d a : Addr} {ts : List Addr} (h : StAt H s d) (e : H a = some (.lst (ts.map V.ref))) : a ≠ s := fun q => by
  obtain ⟨_, ⟨k, h1⟩, _⟩ := h
  rw [q, h1] at e
  match ts with
  | [] => cases e
  | [x] => cases e
  | x :: y :: t => cases e
theorem StAt.ne_tup {H : Hp} {s d a : Addr} {vs : List V} (h : StAt H s d) (e : H a = some (.tup vs)) : a ≠ s := fun q => by
  obtain ⟨_, ⟨k, h1⟩, _⟩ := h
  rw [q, h1] at e
  cases e
/-- a trio in new cells -/
def TrioF (H H' : Hp) (t : Addr) (r : Rule) : Prop := H t = none ∧ ∃ w, H w = none ∧ H' t = some (.tup [.str r.1, .str r.2.1, .ref w]) ∧ H' w = some (.lst (r.2.2.map V.str))
structure BuiltSt (H H' : Hp) (s d nl ru : Addr) (names : List Str) (rs : List Rule) : Prop where
  sm : Same H H'
  st : StAt H' s d
  nm : H' nl = some (.lst (names.map V.str))
  tr : ∃ ts : List Addr, H' ru = some (.lst (ts.map V.ref)) ∧ Paired (TrioF H H') ts rs
variable {H H' H2 : Hp} {s d nl ru : Addr} {names : List Str} {rs : List Rule}
theorem BuiltSt.same (b : BuiltSt H H' s d nl ru names rs) (e : Same H' H2) : BuiltSt H H2 s d nl ru names rs := by
  obtain ⟨ts, h1, h2⟩ := b.tr
  exact ⟨b.sm.trans e, b.st.same e, e _ _ b.nm, ts, e _ _ h1, Paired.mapP h2 fun _ _ ⟨a, w, c, h3, h4⟩ => ⟨a, w, c, e _ _ h3, e _ _ h4⟩⟩
theorem BuiltSt.but (b : BuiltSt H H' s d nl ru names rs) (hs : H s = none) (e : But s H' H2) (st : StAt H2 s d) : BuiltSt H H2 s d nl ru names rs := by
  obtain ⟨ts, h1, h2⟩ := b.tr
  exact ⟨fun a o h => e a o (ne_of_none h hs) (b.sm a o h), st, e _ _ (b.st.ne_strs b.nm) b.nm, ts, e _ _ (b.st.ne_refs h1) h1, Paired.mapP h2 fun _ _ ⟨a, w, c, h3, h4⟩ => ⟨a, w, c, e _ _ (b.st.ne_tup h3) h3, e _ _ (b.st.ne_strs h4) h4⟩⟩
/-- a dict of the drawing's changes -/
theorem BuiltSt.dict (b : BuiltSt H H' s d nl ru names rs) {x : Addr} {kvs kvs2 : List (Key × V)} (hx : H' x = some (.dK kvs)) (h0 : H x = none) : BuiltSt H (upd H' x (.dK kvs2)) s d nl ru names rs := by
  obtain ⟨ts, h1, h2⟩ := b.tr
  obtain ⟨n, ⟨k, g1⟩, ns, g2, r⟩ := b.st
  have kp : ∀ (a : Addr) (o : HO), H' a = some o → (∀ q, o ≠ .dK q) → upd H' x (.dK kvs2) a = some o := fun a o h n => by
    rw [upd_ne (fun z => by rw [z, hx] at h; exact n _ (Option.some.inj h).symm)]; exact h
  exact ⟨same_mut b.sm h0, ⟨n, ⟨k, kp _ _ g1 fun q z => by cases z⟩, ns, kp _ _ g2 fun q z => (by cases z), r⟩, kp _ _ b.nm fun q z => (by cases z), ts, kp _ _ h1 fun q z => (by cases z), Paired.mapP h2 fun _ _ ⟨a, w, c, h3, h4⟩ => ⟨a, w, c, kp _ _ h3 fun q z => (by cases z), kp _ _ h4 fun q z => (by cases z)⟩⟩
/-- a rule is put behind -/
theorem BuiltSt.put (b : BuiltSt H H' s d nl ru names rs) (hru : H ru = none) (hn : names ≠ []) {ts : List Addr} (hts : H' ru = some (.lst (ts.map V.ref))) {t w : Addr} {r : Rule} (nw : w ≠ ru) (h : TrioF H H' t r) (hw : H' t = some (.tup [.str r.1, .str r.2.1, .ref w])) :
    BuiltSt H (upd H' ru (.lst (ts.map V.ref ++ [.ref t]))) s d nl ru names (rs ++ [r]) := by
  obtain ⟨ts', h1, h2⟩ := b.tr
  have ets : ts' = ts := by
    rw [h1] at hts
    exact List.map_inj_right (fun x y q => V.ref.inj q) |>.mp (HO.lst.inj (Option.some.inj hts))
  subst ets
  obtain ⟨n, ⟨k, g1⟩, ns, g2, ne, r2⟩ := b.st
  have nnl : nl ≠ ru := fun z => by
    have h3 := b.nm
    rw [z, h1] at h3
    cases names with
    | nil => exact hn rfl
    | cons x q => cases ts' with
      | nil => cases h3
      | cons t r => cases h3
  have nd : d ≠ ru := fun z => by
    rw [z, h1] at g2
    cases ns with
    | nil => exact ne rfl
    | cons x q => cases ts' with
      | nil => cases g2
      | cons t r => cases g2
  have tp : ∀ (a : Addr) (vs : List V), H' a = some (.tup vs) → upd H' ru (.lst (ts'.map V.ref ++ [.ref t])) a = some (.tup vs) := fun a vs h => by
    rw [upd_ne (fun z => by rw [z, h1] at h; cases h)]; exact h
  have h3 : Paired (TrioF H (upd H' ru (.lst (ts'.map V.ref ++ [.ref t])))) ts' rs := by
    by_cases ce : ts' = []
    · rw [ce] at h2
      rw [ce]
      cases h2
      exact .nil
    · refine Paired.mapP h2 fun t' r' ⟨a, w', c, h3, h4⟩ => ⟨a, w', c, tp _ _ h3, ?_⟩
      rw [upd_ne]
      · exact h4
      · intro z
        rw [z, h1] at h4
        exact ce (strs_refs (Option.some.inj h4).symm)
  obtain ⟨a, w', c, h4, h5⟩ := h
  have ew : w' = w := by
    rw [hw] at h4
    have := HO.tup.inj (Option.some.inj h4)
    simp at this
    exact this.symm
  subst ew
  refine ⟨same_mut b.sm hru, ⟨n, ⟨k, by rw [upd_ne (fun z => by rw [← z] at h1; exact b.st.ne_refs h1 rfl)]; exact g1⟩, ns, by rw [upd_ne nd]; exact g2, ne, r2⟩, by rw [upd_ne nnl]; exact b.nm, ts' ++ [t], by rw [upd_same, List.map_append]; rfl, ?_⟩
  exact paired_app (F := TrioF H _) ⟨a, w', c, tp _ _ h4, by rw [upd_ne nw]; exact h5⟩ h3

def intOf (kvs : List (Key × V)) (n : Str) : Int := match valV kvs (Sum.inr n : Key) with
  | some (.int z) => z
  | _ => 0
theorem intOf_eq {kvs : List (Key × V)} {n : Str} (h : ∃ z : Int, valV kvs (Sum.inr n : Key) = some (.int z)) : valV kvs (Sum.inr n : Key) = some (.int (intOf kvs n)) := by
  obtain ⟨z, hz⟩ := h
  unfold intOf
  rw [hz]
theorem letter_ix {z : Str} (h : 0 < z.cps.toList.length) (j : Int) : ∃ c, atI z.cps.toList (j % (z.length : Int)) = some c ∧ c ∈ z.cps.toList := by
  have e : (z.length : Int) = (z.cps.toList.length : Int) := by show ((z.cps.size : Nat) : Int) = _; simp
  rw [e]
  exact atI_some (Int.emod_nonneg _ (by omega)) (Int.emod_lt_of_pos _ (by omega))
def sp_built : Sp := fun vs H Q _ => ∃ (c : Int) (n : Nat), vs = [.int c, .int n] ∧ 1 ≤ n ∧ n ≤ 6 ∧ ∀ p na ru H' (names : List Str) (rs : List Rule), Same H H' → H p = none → H na = none → H ru = none → na ≠ ru → H' p = some (.tup [.ref na, .ref ru]) → H' na = some (.lst (names.map V.str)) →
  (∃ ts : List Addr, H' ru = some (.lst (ts.map V.ref)) ∧ Paired (TrioF H H') ts rs) → areNames names = true → (∀ x ∈ names, ∃ i, i < 6 ∧ CalledAt i x) → GoodR names rs → rs ≠ [] → rs.length ≤ 24 → names.length = n → Q (.ref p) H'

theorem cut_ge (xs : List V) (n : Nat) : cutV xs (some (n : Int)) none = xs.drop n := by
  unfold cutV
  rw [HT.sIx_none, HT.sIx_nat]
  by_cases h : n ≤ xs.length
  · rw [Nat.min_eq_left h, List.take_of_length_le (by rw [List.length_drop]; exact Nat.le_refl _)]
  · rw [Nat.min_eq_right (by omega), Nat.sub_self, List.take_zero, List.drop_eq_nil_of_le (by omega)]
theorem paired_append {α β : Type} {F : α → β → Prop} : ∀ {xs : List α} {ys : List β} {xs2 : List α} {ys2 : List β}, Paired F xs ys → Paired F xs2 ys2 → Paired F (xs ++ xs2) (ys ++ ys2)
  | _, _, _, _, .nil, h => h
  | _, _, _, _, .cons a t, h => .cons a (paired_append t h)
theorem paired_take {α β : Type} {F : α → β → Prop} : ∀ {xs : List α} {ys : List β}, Paired F xs ys → ∀ i, Paired F (xs.take i) (ys.take i)
  | _, _, _, 0 => .nil
  | _, _, .nil, i + 1 => .nil
  | _, _, .cons a t, i + 1 => .cons a (paired_take t i)
theorem paired_drop {α β : Type} {F : α → β → Prop} : ∀ {xs : List α} {ys : List β}, Paired F xs ys → ∀ i, Paired F (xs.drop i) (ys.drop i)
  | _, _, h, 0 => h
  | _, _, .nil, i + 1 => .nil
  | _, _, .cons a t, i + 1 => paired_drop t i
theorem paired_turn {α β : Type} {F : α → β → Prop} {xs : List α} {ys : List β} (h : Paired F xs ys) (i : Nat) : Paired F (xs.drop i ++ xs.take i) (ys.drop i ++ ys.take i) := paired_append (paired_drop h i) (paired_take h i)

/-! ### rows that are spoilt -/
/-- tuples of m texts and a row in a new cell, of n texts at most -/
def RowsM (m : Nat) (H0 H' : Hp) (ts : List Addr) (n : Nat) : Prop := ∀ t ∈ ts, ∃ (ks : List Str) (w : Addr) (xs : List Str), ks.length = m ∧ H0 w = none ∧ H' t = some (.tup (ks.map V.str ++ [.ref w])) ∧ H' w = some (.lst (xs.map V.str)) ∧ xs.length ≤ n
theorem RowsM.mut {m : Nat} {H0 H' : Hp} {ts : List Addr} {n : Nat} (h : RowsM m H0 H' ts n) {w : Addr} {xs : List Str} (hw : H' w = some (.lst (xs.map V.str))) (hl : xs.length ≤ n) (y : Str) : RowsM m H0 (upd H' w (.lst (xs.map V.str ++ [.str y]))) ts (n + 1) := fun t ht => by
  obtain ⟨ks, w', zs, h1, h2, h3, h4, h5⟩ := h t ht
  have e3 : upd H' w (.lst (xs.map V.str ++ [.str y])) t = some (.tup (ks.map V.str ++ [.ref w'])) := by
    rw [upd_ne (ne_of h3 hw (by intro z; cases z))]; exact h3
  by_cases e : w' = w
  · subst e
    exact ⟨ks, w', xs ++ [y], h1, h2, e3, by rw [upd_same, List.map_append]; rfl, by rw [List.length_append]; exact Nat.succ_le_succ hl⟩
  · exact ⟨ks, w', zs, h1, h2, e3, by rw [upd_ne e]; exact h4, by omega⟩
theorem RowsM.same {m : Nat} {H0 H' H2 : Hp} {ts : List Addr} {n : Nat} (h : RowsM m H0 H' ts n) (e : Same H' H2) : RowsM m H0 H2 ts n := fun t ht => by
  obtain ⟨ks, w', zs, h1, h2, h3, h4, h5⟩ := h t ht
  exact ⟨ks, w', zs, h1, h2, e _ _ h3, e _ _ h4, h5⟩
/-- the list of the tuples stands while rows are spoilt -/
theorem refs_kept {H' : Hp} {p w : Addr} {ts : List Addr} {xs : List Str} {t : Addr} {o : HO} (hp : H' p = some (.lst (ts.map V.ref))) (ht : t ∈ ts) (hw : H' w = some (.lst (xs.map V.str))) : upd H' w o p = some (.lst (ts.map V.ref)) := by
  rw [upd_ne]
  · exact hp
  · intro z
    rw [z, hw] at hp
    have := strs_refs (Option.some.inj hp)
    rw [this] at ht
    cases ht
/-! two lists beside one another -/
variable {α β : Type} [DecidableEq α] [DecidableEq β] {ea : α → PyData} {eb : β → PyData}
def eLL (ea : α → PyData) (eb : β → PyData) (p : α × β) : PyData := .list [ea p.1, eb p.2]
theorem enc_LL (h : Enc ea) (h' : Enc eb) : Enc (eLL ea eb) := fun x y => by
  unfold eLL
  simp only [PyData.eqv, PyData.eqvAll, h x.1 y.1, h' x.2 y.2, Bool.and_true]
  by_cases h1 : x.1 = y.1 <;> by_cases h2 : x.2 = y.2 <;> simp [h1, h2, Prod.ext_iff]
theorem dep_LL {n m : Nat} (h : Dep ea n) (h' : Dep eb m) : Dep (eLL ea eb) (max n m + 1) := fun p => by
  unfold eLL
  simp only [PyData.depth, PyData.depthAll]
  have := h p.1
  have := h' p.2
  omega
theorem enc_self (h : Enc ea) (x : α) : PyData.eqv (ea x) (ea x) = true := by rw [h]; simp
theorem GramAt.ins {C : Addr} {H : Hp} {g : Addr} {names : List Str} {rs : List Rule} (G : GramAt C H g names rs) : ∃ dx kn st od, H g = some (.ins C dx (gfs kn st od)) := by
  obtain ⟨dx, kn, st, od, ls, h, _⟩ := G.ex
  exact ⟨dx, kn, st, od, h⟩
/-- what a name is followed by q is no name -/
theorem called_q {names : List Str} (h : ∀ x ∈ names, ∃ i, i < 6 ∧ CalledAt i x) (x : Str) : x ++ ("q" : Str) ∉ names := fun hx => by
  obtain ⟨i, hi, l, e, _, _⟩ := h _ hx
  have e2 : x.cps.toList ++ [113] = l ++ [97 + i] := by
    have := congrArg (fun z : Str => z.cps.toList) e
    have e3 : (x ++ ("q" : Str)).cps.toList = x.cps.toList ++ ("q" : Str).cps.toList := by
      show (x.cps ++ ("q" : Str).cps).toList = _
      simp
    have e4 : ("q" : Str).cps.toList = [113] := by decide +kernel
    rw [← e4, ← e3]
    simpa using this
  have e4 := (List.append_inj' e2 rfl).2
  simp at e4
  omega
theorem called_nil {names : List Str} (h : ∀ x ∈ names, ∃ i, i < 6 ∧ CalledAt i x) : ("" : Str) ∉ names := fun hx => by
  obtain ⟨i, hi, l, e, _, _⟩ := h _ hx
  have e4 : ("" : Str).cps.toList = [] := by decide +kernel
  rw [e] at e4
  simp at e4
/-- tuples in cells that are not D -/
def RowD (H' : Hp) (D t : Addr) (r : Str × List Str) : Prop := t ≠ D ∧ ∃ w, w ≠ D ∧ H' t = some (.tup [.str r.1, .ref w]) ∧ H' w = some (.lst (r.2.map V.str))
theorem RowsM.of_rows {H0 H' : Hp} {ts : List Addr} {ps : List (Str × List Str)} (h : Paired (fun t (r : Str × List Str) => H0 t = none ∧ ∃ w, H0 w = none ∧ H' t = some (.tup [.str r.1, .ref w]) ∧ H' w = some (.lst (r.2.map V.str))) ts ps) {n : Nat} (hn : ∀ p ∈ ps, p.2.length ≤ n) : RowsM 1 H0 H' ts n := fun t ht => by
  obtain ⟨i, hi⟩ := List.mem_iff_getElem?.mp ht
  obtain ⟨r, hr, _, w, h1, h2, h3⟩ := paired_get h hi
  exact ⟨[r.1], w, r.2, rfl, h1, h2, h3, hn r (List.mem_of_getElem? hr)⟩
theorem RowsM.of_trios {H0 H' : Hp} {ts : List Addr} {rs : List Rule} (h : Paired (fun t (r : Rule) => H0 t = none ∧ ∃ w, H0 w = none ∧ H' t = some (.tup [.str r.1, .str r.2.1, .ref w]) ∧ H' w = some (.lst (r.2.2.map V.str))) ts rs) {n : Nat} (hn : ∀ r ∈ rs, r.2.2.length ≤ n) : RowsM 2 H0 H' ts n := fun t ht => by
  obtain ⟨i, hi⟩ := List.mem_iff_getElem?.mp ht
  obtain ⟨r, hr, _, w, h1, h2, h3⟩ := paired_get h hi
  exact ⟨[r.1, r.2.1], w, r.2.2, rfl, h1, h2, h3, hn r (List.mem_of_getElem? hr)⟩

/-- none where the first heap knows nothing and the second does -/
def mixH (H H' : Hp) : Hp := fun a => match H' a with
  | none => some (.lst [])
  | some _ => H a
theorem mixH_none {H H' : Hp} (w : Addr) : mixH H H' w = none ↔ H w = none ∧ ∃ o, H' w = some o := by
  unfold mixH
  cases e : H' w with
  | none => simp
  | some o => simp

theorem letters_ok3 : ∀ z ∈ ([("a" : Str), "ab", "xyz"]), z.length ≤ 3 ∧ 0 < z.cps.toList.length ∧ ∀ c ∈ z.cps.toList, isLetter ⟨#[c]⟩ = true := by
  decide +kernel
def sp_of_any : Sp := fun vs H Q _ => ∃ (c : Int) (n : Nat), vs = [.int c, .int n] ∧ 1 ≤ n ∧ n ≤ 6 ∧ ∀ p na ru H' (names : List Str) (rs : List Rule), Same H H' → H p = none → H na = none → H ru = none → na ≠ ru → H' p = some (.tup [.ref na, .ref ru]) → H' na = some (.lst (names.map V.str)) →
  (∃ ts : List Addr, H' ru = some (.lst (ts.map V.ref)) ∧ Paired (TrioF H H') ts rs) → areNames names = true → (∀ x ∈ names, ∃ i, i < 6 ∧ CalledAt i x) → GoodR names rs → rs.length ≤ 24 → names.length = n → Q (.ref p) H'
end SG
/-! sorted of data that reads from a type of Lean's; what is told once -/
namespace SG
open PySem PySem.Spec PyProof.Rows L2
section
variable {α : Type}
/-- all alike -/
def Alk (e : α → PyData) : Prop := ∀ a b, PySem.W.alike (e a) (e b) = true
theorem alk_str : Alk PyData.str := fun a b => by rw [PySem.W.alike]
theorem alk_int : Alk PyData.int := fun a b => by rw [PySem.W.alike]
theorem alkAll {e : α → PyData} (h : Alk e) : ∀ xs ys : List α, PySem.W.alikeAll (xs.map e) (ys.map e) = true
  | [], ys => by rw [List.map_nil, PySem.W.alikeAll]
  | x :: r, [] => by rw [List.map_nil, List.map_cons, PySem.W.alikeAll]
  | x :: r, y :: t => by rw [List.map_cons, List.map_cons, PySem.W.alikeAll, h x y, alkAll h r t]; rfl
theorem alk_L {e : α → PyData} (h : Alk e) : Alk (eL e) := fun xs ys => by
  unfold eL
  rw [PySem.W.alike]
  exact alkAll h xs ys
theorem alk_2 {β : Type} {ea : α → PyData} {eb : β → PyData} (h : Alk ea) (h' : Alk eb) : Alk (e2 ea eb) := fun x y => by
  unfold e2
  rw [PySem.W.alike, PySem.W.alikeAll, PySem.W.alikeAll, PySem.W.alikeAll, h, h']
  rfl
theorem alk_3 {β γ : Type} {ea : α → PyData} {eb : β → PyData} {ec : γ → PyData} (h : Alk ea) (h' : Alk eb) (h'' : Alk ec) : Alk (e3 ea eb ec) := fun x y => by
  unfold e3
  rw [PySem.W.alike, PySem.W.alikeAll, PySem.W.alikeAll, PySem.W.alikeAll, PySem.W.alikeAll, h, h', h'']
  rfl
/-- sorted, as the program sorts -/
def leE (e : α → PyData) : α → α → Bool := PySem.W.dataLe false e
def esort (e : α → PyData) (xs : List α) : List α := xs.mergeSort (leE e)
theorem esort_perm (e : α → PyData) (xs : List α) : (esort e xs).Perm xs := List.mergeSort_perm _ _
theorem leE_total (e : α → PyData) : PySem.W.TotalLe (leE e) := PySem.W.sortLe_total (PyProof.Rows.listOrd PyProof.Rows.itemOrd) false fun b : α => PySem.W.keyToks (e b)
theorem esort_pair (e : α → PyData) (xs : List α) : (esort e xs).Pairwise fun a b => leE e a b = true := PySem.W.sort_pairwise (leE_total e) xs
theorem leE_anti [DecidableEq α] {e : α → PyData} (he : Enc e) (ha : Alk e) {a b : α} (h : leE e a b = true) (h' : leE e b a = true) : a = b := by
  have h1 : PySem.W.dataLt (e b) (e a) = false := by
    have : (!PySem.W.dataLt (e b) (e a)) = true := h
    simpa using this
  have h2 : PySem.W.dataLt (e a) (e b) = false := by
    have : (!PySem.W.dataLt (e a) (e b)) = true := h'
    simpa using this
  have ht := PyProof.Rows.lex_total _ _ h2 h1
  have hq := PySem.W.toks_eqv (e a) (e b) (ha a b)
  have := he a b
  by_cases c : a = b
  · exact c
  · rw [decide_eq_false c] at this
    have k := hq.2 this
    have k1 := k [] [Sum.inl 1]
    have k2 := k [Sum.inl 1] []
    rw [ht, PySem.W.lex_pre] at k1 k2
    have k3 := PyProof.Rows.lex_irrefl (O := PyProof.Rows.itemOrd) (PySem.W.keyToks (e b))
    rw [k3] at k1
    exact absurd k1 (by decide)
theorem esort_eq [DecidableEq α] {e : α → PyData} (he : Enc e) (ha : Alk e) {xs ys : List α} (h : xs.Perm ys) : esort e xs = esort e ys :=
  ((esort_perm e xs).trans (h.trans (esort_perm e ys).symm)).eq_of_pairwise (fun _ _ _ _ => leE_anti he ha) (esort_pair e xs) (esort_pair e ys)
/-- what is sorted is its own sorting -/
theorem esort_of [DecidableEq α] {e : α → PyData} (he : Enc e) (ha : Alk e) {xs ys : List α} (h : xs.Perm ys) (hp : xs.Pairwise fun a b => leE e a b = true) : xs = esort e ys :=
  (h.trans (esort_perm e ys).symm).eq_of_pairwise (fun _ _ _ _ => leE_anti he ha) hp (esort_pair e ys)
/-! ### each once, of what is sorted -/
variable [DecidableEq α]
def uniq1 (l : List α) (x : α) : List α := if l.getLast? = some x then l else l ++ [x]
def uniq (xs : List α) : List α := xs.foldl uniq1 []
theorem uniq_snoc (xs : List α) (x : α) : uniq (xs ++ [x]) = uniq1 (uniq xs) x := by
  unfold uniq
  rw [List.foldl_append]
  rfl
theorem list_snoc_ind {P : List α → Prop} (h0 : P []) (hs : ∀ xs x, P xs → P (xs ++ [x])) (xs : List α) : P xs := by
  have : ∀ ys : List α, P ys.reverse := fun ys => by
    induction ys with
    | nil => exact h0
    | cons y t ih => rw [List.reverse_cons]; exact hs _ _ ih
  have h := this xs.reverse
  rwa [List.reverse_reverse] at h
theorem uniq_sub (xs : List α) : (uniq xs).Sublist xs := by
  refine list_snoc_ind (P := fun xs => (uniq xs).Sublist xs) (List.Sublist.refl _) (fun xs x ih => ?_) xs
  rw [uniq_snoc]
  unfold uniq1
  split
  · exact ih.trans (List.sublist_append_left _ _)
  · exact ih.append (List.Sublist.refl _)
theorem uniq_last (xs : List α) : (uniq xs).getLast? = xs.getLast? := by
  refine list_snoc_ind (P := fun xs => (uniq xs).getLast? = xs.getLast?) rfl (fun xs x ih => ?_) xs
  rw [uniq_snoc]
  unfold uniq1
  split
  · rename_i h
    rw [h, List.getLast?_append]
    rfl
  · rw [List.getLast?_append, List.getLast?_append]
    rfl
theorem uniq_mem (xs : List α) : ∀ y, y ∈ uniq xs ↔ y ∈ xs := by
  refine list_snoc_ind (P := fun xs => ∀ y, y ∈ uniq xs ↔ y ∈ xs) (fun y => Iff.rfl) (fun xs x ih => fun y => ?_) xs
  rw [uniq_snoc]
  unfold uniq1
  split
  · rename_i h
    rw [List.mem_append, ih y, List.mem_singleton]
    constructor
    · exact .inl
    · rintro (h1 | rfl)
      · exact h1
      · exact (ih y).mp (List.mem_of_getLast? h)
  · rw [List.mem_append, List.mem_append, ih y]
theorem uniq_nd {e : α → PyData} (he : Enc e) (ha : Alk e) (xs : List α) (h : xs.Pairwise fun a b => leE e a b = true) : (uniq xs).Nodup := by
  revert h
  refine list_snoc_ind (P := fun xs => (xs.Pairwise fun a b => leE e a b = true) → (uniq xs).Nodup) (fun _ => List.nodup_nil) (fun xs x ih => fun h => ?_) xs
  rw [List.pairwise_append] at h
  have h1 := ih h.1
  rw [uniq_snoc]
  unfold uniq1
  split
  · exact h1
  · rename_i hc
    rw [List.nodup_append]
    refine ⟨h1, by simp, fun a ha' b hb e' => hc ?_⟩
    rw [List.mem_singleton.mp hb] at e'
    subst e'
    rw [uniq_last]
    have hax := (uniq_mem xs a).mp ha'
    cases hl : xs.getLast? with
    | none => rw [List.getLast?_eq_none_iff] at hl; rw [hl] at hax; cases hax
    | some z =>
      have hz : leE e z a = true := h.2.2 z (List.mem_of_getLast? hl) a (List.mem_singleton.mpr rfl)
      have hz2 : leE e a z = true := by
        obtain ⟨ys, hy⟩ := List.getLast?_eq_some_iff.mp hl
        rw [hy] at hax
        rcases List.mem_append.mp hax with k | k
        · have := h.1
          rw [hy, List.pairwise_append] at this
          exact this.2.2 a k z (List.mem_singleton.mpr rfl)
        · rw [List.mem_singleton.mp k]
          exact (leE_total e).refl z
      rw [leE_anti he ha hz2 hz]
theorem perm_of_nd {xs ys : List α} (h : xs.Nodup) (h' : ys.Nodup) (m : ∀ x, x ∈ xs ↔ x ∈ ys) : xs.Perm ys := by
  rw [List.perm_iff_count]
  intro a
  rw [List.Nodup.count h, List.Nodup.count h']
  simp only [m a]
/-- sorted and each once: it is the sorting of any list that tells each once -/
theorem uniq_esort {e : α → PyData} (he : Enc e) (ha : Alk e) {xs ys : List α} (h : ys.Nodup) (m : ∀ x, x ∈ xs ↔ x ∈ ys) : uniq (esort e xs) = esort e ys :=
  esort_of he ha (perm_of_nd (uniq_nd he ha _ (esort_pair e xs)) h fun x => by rw [uniq_mem, (esort_perm e xs).mem_iff]; exact m x) ((esort_pair e xs).sublist (uniq_sub _))
end

/-! ### sorted(xs) of data read from a type of Lean's: cells and what they hold go together -/
def Srt {α : Type} (e : α → PyData) : Prop := (∀ b, ∃ x r, e b = .tuple (x :: r)) ∨ (∀ b, e b ≠ .none ∧ ∀ xs, e b ≠ .tuple xs)
theorem Srt.sortable {α : Type} {e : α → PyData} (h : Srt e) (ps : List α) : PySem.W.Sortable (ps.map e) := h.elim PySem.W.Sortable.tuples PySem.W.Sortable.others
theorem srt_str : Srt PyData.str := .inr fun b => ⟨(fun h => by cases h), (fun xs h => by cases h)⟩
theorem srt_2 {α β : Type} (ea : α → PyData) (eb : β → PyData) : Srt (e2 ea eb) := .inl fun b => ⟨_, _, rfl⟩
theorem srt_3 {α β γ : Type} (ea : α → PyData) (eb : β → PyData) (ec : γ → PyData) : Srt (e3 ea eb ec) := .inl fun b => ⟨_, _, rfl⟩
theorem srt_L {α : Type} (ea : α → PyData) : Srt (eL ea) := .inr fun b => ⟨(fun h => by cases h), (fun xs h => by cases h)⟩
def rSortedG (K : PySem.W.Frag) : List V → Hp → VK → Prop := fun vs H Q => ∃ (α : Type) (e : α → PyData) (a : Addr) (xs : List V) (ps : List α), vs = [V.ref a] ∧ SqL K H a xs ∧ DpAll K H xs (ps.map e) ∧ Alk e ∧ Srt e ∧ (∀ p ∈ ps, (e p).depth ≤ 8) ∧
  ∀ (zs : List (V × α)) (q : Addr), zs.Perm (xs.zip ps) → zs.map (·.2) = esort e ps → H q = none → Q (.ref q) (upd H q (.lst (zs.map (·.1))))
theorem each_of_valsE {h : Heap} {α : Type} : ∀ {xs : List V} {us : List Value} {ds : List α}, Vals xs us → xs.length = ds.length → PySem.W.EachIs (fun (u : Value) (b : V × α) => RelV b.1 u) us (xs.zip ds)
  | _, _, ds, .nil, hl => by cases ds with
    | nil => exact .nil
    | cons d t => simp at hl
  | _, _, ds, .cons r t, hl => by cases ds with
    | nil => simp at hl
    | cons d k => exact .cons r (each_of_valsE (h := h) t (by simpa using hl))
theorem each_readsE {α : Type} {e : α → PyData} {X : Cx} {pins : List (Addr × Obj)} {σ : L2.St} {H : Hp} {s : Shared} (I : Inv X pins σ H s) : ∀ {xs : List V} {us : List Value} {ps : List α}, Vals xs us → DpAll X.K H xs (ps.map e) → PySem.W.EachIs (fun v (b : V × α) => ∃ as, Reads s.heap v (e b.2) as) us (xs.zip ps)
  | _, _, [], .nil, _ => .nil
  | _, _, p :: ps, .cons r t, .cons d k => .cons (Dp.reads I _ _ _ d r) (each_readsE I t k)
theorem vals_of_eachE {α : Type} : ∀ {us : List Value} {bs : List (V × α)}, PySem.W.EachIs (fun (u : Value) (b : V × α) => RelV b.1 u) us bs → Vals (bs.map (·.1)) us
  | _, _, .nil => .nil
  | _, _, .cons r t => .cons r (vals_of_eachE t)
theorem cr_sortedG {X : Cx} (hu : X.A.units + 64 < cLine) : CallR X (.builtin "sorted") (rSortedG X.K) := by
  intro pins s σ H vs us Q I r h
  obtain ⟨α, e, a, xs, ps, rfl, hs, hd, hal, hso, hdep, q⟩ := h
  obtain ⟨its, rv, hl, hz⟩ := I.list hs
  rw [Vals.ref1 r]
  have hlen : xs.length = ps.length := by rw [dpAll_len hd, List.length_map]
  have hm : (xs.zip ps).map (fun b => e b.2) = ps.map e := by
    have h0 : (xs.zip ps).map Prod.snd = ps := List.map_snd_zip (by omega)
    have h1 : ((xs.zip ps).map Prod.snd).map e = ps.map e := by rw [h0]
    rw [List.map_map] at h1
    exact h1
  have hm1 : (xs.zip ps).map Prod.fst = xs := List.map_fst_zip (by omega)
  have hm2 : (xs.zip ps).map Prod.snd = ps := List.map_snd_zip (by omega)
  refine PySem.W.sorted_data (enc := fun b : V × α => e b.2) hl.isList (each_of_valsE (h := s.heap) rv hlen) (each_readsE I rv hd) (by rw [hm]; exact PySem.W.AllAlike.of hal) (by rw [hm]; exact hso.sortable ps)
    (by rw [List.length_zip]; omega) (fun b hb => ?_) fun out ho hE => ?_
  · have := hdep b.2 (by rw [← hm2]; exact List.mem_map_of_mem hb)
    omega
  · obtain ⟨ep, he'⟩ := PyProof.Rows.sortedAll_at s.heap its (List.toArray out)
    have hp := List.mergeSort_perm (xs.zip ps) (PySem.W.dataLe false fun b : V × α => e b.2)
    have e2 : ((xs.zip ps).mergeSort (PySem.W.dataLe false fun b : V × α => e b.2)).map (·.2) = esort e ps := by
      have := PySem.W.sort_maps (r := PySem.W.dataLe false (fun b : V × α => e b.2)) (s := leE e) (Prod.snd : V × α → α) (l := xs.zip ps) (fun a _ b _ => rfl)
      rw [hm2] at this
      exact this
    have hP : (((xs.zip ps).mergeSort (PySem.W.dataLe false fun b : V × α => e b.2)).map (·.1)).Perm xs := by
      have := hp.map (·.1)
      rw [hm1] at this
      exact this
    have hlenY : (((xs.zip ps).mergeSort (PySem.W.dataLe false fun b : V × α => e b.2)).map (·.1)).length ≤ sizeLine := by rw [hP.length_eq]; exact hz
    exact ⟨.ref _, upd H (s.heap.objs.size + 1) (.lst _), I.laid (t' := s.toks) (fun _ _ => PyProof.Rows.sortedAll_old) (Nat.le_succ _) ⟨hlenY, out, ep, vals_of_eachE hE, by simpa using he'⟩, rfl, q _ _ hp e2 (I.hok.fresh (Nat.le_succ _))⟩
/-- sorted of texts -/
theorem srt_strs_out {xs : List Str} {zs : List (V × Str)} (h : zs.Perm ((xs.map V.str).zip xs)) (h' : zs.map (·.2) = esort PyData.str xs) : zs.map (·.1) = (ssort xs).map V.str := by
  have h1 : ∀ z ∈ zs, z.1 = V.str z.2 := fun z hz => by
    have := h.mem_iff.mp hz
    obtain ⟨i, hi⟩ := List.mem_iff_getElem?.mp this
    rw [List.getElem?_zip_eq_some, List.getElem?_map] at hi
    obtain ⟨a, b⟩ := hi
    rw [b] at a
    exact (Option.some.inj a).symm
  have h2 : esort PyData.str xs = ssort xs := by
    have := dsort_strs xs
    unfold dsort at this
    unfold esort
    have h3 := PySem.W.sort_maps (r := leE PyData.str) (s := PySem.W.dataLe false id) PyData.str (l := xs) fun a _ b _ => rfl
    rw [← h3] at this
    exact (List.map_inj_right (fun x y q => PyData.str.inj q)).mp this
  rw [← h2, ← h', List.map_map]
  exact List.map_congr_left h1
/-- cells sorted by what they hold -/
theorem srt_refs_out {α : Type} {e : α → PyData} {F : Addr → α → Prop} {ts : List Addr} {ps : List α} {zs : List (V × α)} (hF : Paired F ts ps) (h : zs.Perm ((ts.map V.ref).zip ps)) (h' : zs.map (·.2) = esort e ps) : ∃ ts', zs.map (·.1) = ts'.map V.ref ∧ Paired F ts' (esort e ps) ∧ ∀ t ∈ ts', t ∈ ts := by
  have h1 : ∀ z ∈ zs, ∃ t, z.1 = V.ref t ∧ F t z.2 ∧ t ∈ ts := fun z hz => by
    have := h.mem_iff.mp hz
    obtain ⟨i, hi⟩ := List.mem_iff_getElem?.mp this
    rw [List.getElem?_zip_eq_some, List.getElem?_map] at hi
    obtain ⟨a, b⟩ := hi
    cases c : ts[i]? with
    | none => rw [c] at a; cases a
    | some t =>
      rw [c] at a
      exact ⟨t, (Option.some.inj a).symm, paired_ix hF c b, List.mem_of_getElem? c⟩
  rw [← h']
  clear h h'
  induction zs with
  | nil => exact ⟨[], rfl, .nil, fun t ht => by cases ht⟩
  | cons z r ih =>
    obtain ⟨t, h2, h3, h4⟩ := h1 z List.mem_cons_self
    obtain ⟨ts', g1, g2, g3⟩ := ih fun x hx => h1 x (List.mem_cons_of_mem _ hx)
    refine ⟨t :: ts', by rw [List.map_cons, List.map_cons, h2, g1], .cons h3 g2, fun x hx => ?_⟩
    rcases List.mem_cons.mp hx with rfl | hx
    · exact h4
    · exact g3 x hx
end SG
/-! steps, in plain words -/
namespace SG
open PySem PySem.Spec PyProof.Rows L2
abbrev Step := Str × List Str
theorem alk_Row : Alk eRow := alk_2 alk_str (alk_L alk_str)
theorem srt_Row : Srt eRow := srt_2 _ _
def each1 (ps : List Step) : List Step := uniq (esort eRow ps)
def rowPuts (rs : List Rule) : List Str → List Step
  | [] => []
  | n :: t => (rulesOf rs n).map fun p => (p.1, p.2 ++ t)
def rowSteps (rs : List Rule) (row : List Str) : List Step := each1 (rowPuts rs row)
/-- what bag[i] may do, the rest beside it -/
def bagAt (rs : List Rule) (bag : List Str) (i : Nat) : List Step := match bag[i]? with
  | none => []
  | some n => (rulesOf rs n).map fun p => (p.1, ssort (p.2 ++ (bag.take i ++ bag.drop (i + 1))))
def bagPuts (rs : List Rule) (bag : List Str) : List Step := (List.range bag.length).flatMap (bagAt rs bag)
def bagSteps (rs : List Rule) (bag : List Str) : List Step := each1 (bagPuts rs bag)
theorem each1_len (ps : List Step) : (each1 ps).length ≤ ps.length := by
  have h := (uniq_sub (esort eRow ps)).length_le
  rw [(esort_perm eRow ps).length_eq] at h
  exact h
theorem flat_range_snoc {α : Type} (f : Nat → List α) (n : Nat) : (List.range (n + 1)).flatMap f = (List.range n).flatMap f ++ f n := by
  rw [List.range_succ, List.flatMap_append]
  simp
theorem paired_zip {F : Addr → Step → Prop} : ∀ {ts : List Addr} {ps : List Step}, Paired F ts ps → Paired (fun t p => (t, p) ∈ ts.zip ps) ts ps
  | _, _, .nil => .nil
  | t :: ts, p :: ps, .cons _ k => .cons List.mem_cons_self (Paired.mapP (paired_zip k) fun _ _ h => List.mem_cons_of_mem _ h)
theorem paired_of_zip {F : Addr → Step → Prop} : ∀ {ts : List Addr} {ps : List Step}, Paired F ts ps → ∀ {t p}, (t, p) ∈ ts.zip ps → F t p
  | _, _, .nil, _, _, h => by cases h
  | a :: ts, b :: ps, .cons h1 k, t, p, h => by
    rw [List.zip_cons_cons] at h
    rcases List.mem_cons.mp h with h | h
    · cases h; exact h1
    · exact paired_of_zip k h
theorem paired_back {α β : Type} {F : α → β → Prop} : ∀ {xs : List α} {ys : List β}, Paired F xs ys → xs ≠ [] → ∃ as a bs b, xs = as ++ [a] ∧ ys = bs ++ [b] ∧ F a b
  | _, _, .nil, h => absurd rfl h
  | x :: xs, y :: ys, .cons h1 k, _ => by
    by_cases c : xs = []
    · subst c
      cases k
      exact ⟨[], x, [], y, rfl, rfl, h1⟩
    · obtain ⟨as, a, bs, b, e1, e2, e3⟩ := paired_back k c
      exact ⟨x :: as, a, y :: bs, b, by rw [e1]; rfl, by rw [e2]; rfl, e3⟩
theorem cut_neg : ((-1 : Int)) = -1 := rfl

theorem each1_nd (ps : List Step) : (each1 ps).Nodup := uniq_nd enc_Row alk_Row _ (esort_pair eRow ps)
theorem each1_mem (ps : List Step) (x : Step) : x ∈ each1 ps ↔ x ∈ ps := by
  unfold each1
  rw [uniq_mem, (esort_perm eRow ps).mem_iff]
theorem each1_of {xs L : List Step} (nd : L.Nodup) (m : ∀ x, x ∈ L ↔ x ∈ xs) : esort eRow L = each1 xs := (uniq_esort enc_Row alk_Row nd fun x => (m x).symm).symm
theorem each1_ext {xs ys : List Step} (h : ∀ x, x ∈ xs ↔ x ∈ ys) : each1 xs = each1 ys := by
  rw [← each1_of (each1_nd ys) fun x => (each1_mem ys x).trans (h x).symm]
  exact each1_of (each1_nd ys) (each1_mem ys)
theorem rowPuts_snoc (rs : List Rule) (r : Rule) (n : Str) (t : List Str) : rowPuts (rs ++ [r]) (n :: t) = if r.1 = n then rowPuts rs (n :: t) ++ [(r.2.1, r.2.2 ++ t)] else rowPuts rs (n :: t) := by
  show (rulesOf (rs ++ [r]) n).map _ = if r.1 = n then (rulesOf rs n).map _ ++ _ else (rulesOf rs n).map _
  rw [rulesOf_snoc]
  by_cases c : r.1 = n
  · rw [if_pos c, if_pos c, List.map_append]; rfl
  · rw [if_neg c, if_neg c]
theorem bagAt_snoc (rs : List Rule) (r : Rule) {bag : List Str} {k : Nat} {n : Str} (h : bag[k]? = some n) : bagAt (rs ++ [r]) bag k = if r.1 = n then bagAt rs bag k ++ [(r.2.1, ssort (r.2.2 ++ (bag.take k ++ bag.drop (k + 1))))] else bagAt rs bag k := by
  unfold bagAt
  rw [h]
  simp only
  rw [rulesOf_snoc]
  by_cases c : r.1 = n
  · rw [if_pos c, if_pos c, List.map_append]; rfl
  · rw [if_neg c, if_neg c]
theorem rest_perm {bag : List Str} {i : Nat} {n : Str} (h : bag[i]? = some n) : (bag.take i ++ bag.drop (i + 1)).Perm (bag.erase n) := by
  have h1 : (n :: (bag.take i ++ bag.drop (i + 1))).Perm bag := by
    obtain ⟨hl, hx⟩ := List.getElem?_eq_some_iff.mp h
    have e : bag = bag.take i ++ n :: bag.drop (i + 1) := by
      conv => lhs; rw [← List.take_append_drop i bag, List.drop_eq_getElem_cons hl, hx]
    conv => rhs; rw [e]
    exact List.perm_middle.symm
  exact (h1.trans (List.perm_cons_erase (List.mem_of_getElem? h))).cons_inv
theorem mem_bagPuts {rs : List Rule} {bag : List Str} {x : Step} : x ∈ bagPuts rs bag ↔ ∃ n ∈ bag, ∃ p ∈ rulesOf rs n, x = (p.1, ssort (p.2 ++ bag.erase n)) := by
  unfold bagPuts
  rw [List.mem_flatMap]
  constructor
  · rintro ⟨i, hi, hx⟩
    rw [List.mem_range] at hi
    have hn : bag[i]? = some bag[i] := List.getElem?_eq_getElem hi
    unfold bagAt at hx
    rw [hn] at hx
    obtain ⟨p, hp, rfl⟩ := List.mem_map.mp hx
    exact ⟨bag[i], List.getElem_mem _, p, hp, by rw [ssort_eq ((List.Perm.refl p.2).append (rest_perm hn))]⟩
  · rintro ⟨n, hn, p, hp, rfl⟩
    obtain ⟨i, hi⟩ := List.mem_iff_getElem?.mp hn
    refine ⟨i, List.mem_range.mpr (List.getElem?_eq_some_iff.mp hi).1, ?_⟩
    unfold bagAt
    rw [hi]
    exact List.mem_map.mpr ⟨p, hp, by rw [ssort_eq ((List.Perm.refl p.2).append (rest_perm hi))]⟩
theorem bagSteps_perm (rs : List Rule) {b b' : List Str} (h : b.Perm b') : bagSteps rs b = bagSteps rs b' := each1_ext fun x => by
  rw [mem_bagPuts, mem_bagPuts]
  constructor
  · rintro ⟨n, hn, p, hp, rfl⟩
    exact ⟨n, h.mem_iff.mp hn, p, hp, by rw [ssort_eq ((List.Perm.refl p.2).append (h.erase n))]⟩
  · rintro ⟨n, hn, p, hp, rfl⟩
    exact ⟨n, h.mem_iff.mpr hn, p, hp, by rw [ssort_eq ((List.Perm.refl p.2).append (h.erase n))]⟩

theorem itePos {b : Bool} {A B : Prop} (hb : b = true) (h : A) : if b = true then A else B := by rw [if_pos hb]; exact h
theorem rowPuts_len {rs : List Rule} (h : rs.length ≤ 100) (row : List Str) : (rowPuts rs row).length ≤ 100 := by
  cases row with
  | nil => exact Nat.zero_le _
  | cons n t =>
    show ((rulesOf rs n).map _).length ≤ 100
    rw [List.length_map]
    exact Nat.le_trans (by unfold rulesOf; rw [List.length_map]; exact List.length_filter_le _ _) h
theorem rulesOf_le (rs : List Rule) (n : Str) : (rulesOf rs n).length ≤ rs.length := by
  unfold rulesOf
  rw [List.length_map]
  exact List.length_filter_le _ _
theorem bagAt_len {rs : List Rule} (h : rs.length ≤ 100) (bag : List Str) (i : Nat) : (bagAt rs bag i).length ≤ 100 := by
  unfold bagAt
  cases bag[i]? with
  | none => exact Nat.zero_le _
  | some n => simp only [List.length_map]; exact Nat.le_trans (rulesOf_le rs n) h
theorem flat_len {α : Type} {f : Nat → List α} {k : Nat} (h : ∀ i, (f i).length ≤ k) : ∀ n, ((List.range n).flatMap f).length ≤ k * n
  | 0 => Nat.zero_le _
  | n + 1 => by
    have := flat_len h n
    have := h n
    rw [flat_range_snoc, List.length_append, Nat.mul_succ]
    omega
theorem bagPuts_len {rs : List Rule} (h : rs.length ≤ 100) (bag : List Str) : (bagPuts rs bag).length ≤ 100 * bag.length := flat_len (bagAt_len h bag) _
theorem rowPuts_short {rs : List Rule} (h : ∀ r ∈ rs, r.2.2.length ≤ 1000) {row : List Str} (hr : row.length ≤ 1000) : ∀ p ∈ rowPuts rs row, p.2.length ≤ 2000 := fun p hp => by
  cases row with
  | nil => cases hp
  | cons n t =>
    obtain ⟨q, hq, rfl⟩ := List.mem_map.mp (show p ∈ (rulesOf rs n).map _ from hp)
    have := h _ (mem_rulesOf.mp hq)
    simp at hr
    show (q.2 ++ t).length ≤ 2000
    rw [List.length_append]
    simp at this
    omega
theorem bagPuts_short {rs : List Rule} (h : ∀ r ∈ rs, r.2.2.length ≤ 1000) {bag : List Str} (hr : bag.length ≤ 1000) : ∀ p ∈ bagPuts rs bag, p.2.length ≤ 2000 := fun p hp => by
  obtain ⟨n, hn, q, hq, rfl⟩ := mem_bagPuts.mp hp
  have h1 := h _ (mem_rulesOf.mp hq)
  show (ssort (q.2 ++ bag.erase n)).length ≤ 2000
  rw [(ssort_perm _).length_eq, List.length_append]
  have h2 : (bag.erase n).length ≤ bag.length := List.length_erase_le
  simp at h1
  omega

theorem cut_ints (ds : List Int) (lo hi : Option Int) : ∃ zs : List Int, cutV (ds.map V.int) lo hi = zs.map V.int ∧ zs.length ≤ ds.length ∧ ∀ z ∈ zs, z ∈ ds := by
  unfold cutV
  rw [List.length_map]
  refine ⟨(ds.drop (HT.sIx ds.length 0 lo)).take (HT.sIx ds.length ds.length hi - HT.sIx ds.length 0 lo), by rw [← List.map_drop, ← List.map_take], ?_, fun z hz => List.mem_of_mem_drop (List.mem_of_mem_take hz)⟩
  rw [List.length_take, List.length_drop]
  omega
def nameAt (names : List Str) (x : Int) : Str := names.getD (x % (names.length : Int)).toNat ""
theorem nameAt_at {names : List Str} (h : 0 < names.length) (x : Int) : atI (names.map V.str) (x % (names.length : Int)) = some (.str (nameAt names x)) ∧ nameAt names x ∈ names := by
  have h0 : 0 ≤ x % (names.length : Int) := Int.emod_nonneg _ (by omega)
  have h1 : x % (names.length : Int) < names.length := Int.emod_lt_of_pos _ (by omega)
  have h2 : names[(x % (names.length : Int)).toNat]? = some (nameAt names x) := by
    unfold nameAt
    rw [List.getD_eq_getElem?_getD, List.getElem?_eq_getElem (by omega)]
    rfl
  refine ⟨?_, List.mem_of_getElem? h2⟩
  rw [atI_eq h0 (by rw [List.length_map]; exact h1), List.getElem?_map, h2]
  rfl
/-- rows of a grammar's rules are short -/
def ShortR (rs : List Rule) : Prop := rs.length ≤ 100 ∧ ∀ r ∈ rs, r.2.2.length ≤ 1000
theorem ShortR.of {rs : List Rule} (h : ShortR rs) (n : Str) : (rulesOf rs n).length ≤ 100 ∧ ∀ p ∈ rulesOf rs n, p.2.length ≤ 1000 :=
  ⟨Nat.le_trans (rulesOf_le rs n) h.1, fun p hp => h.2 _ (mem_rulesOf.mp hp)⟩
end SG
/-! norms, in plain words: least sizes of derivations; rounds over the rules come to them -/
namespace SG
open PySem PySem.Spec PyProof.Rows L2
abbrev Wt := Str → Option Nat
abbrev Edge := Str × List Str
def addW (w : Wt) : List Str → Option Nat
  | [] => some 0
  | n :: t => match w n, addW w t with
    | some a, some b => some (a + b)
    | _, _ => none
def relax (w : Wt) (e : Edge) : Wt := match addW w e.2 with
  | none => w
  | some s => match w e.1 with
    | none => fun m => if m = e.1 then some (s + 1) else w m
    | some v => if s + 1 < v then (fun m => if m = e.1 then some (s + 1) else w m) else w
def leW (w w' : Wt) : Prop := ∀ n v, w' n = some v → ∃ u, u ≤ v ∧ w n = some u
theorem leW.refl (w : Wt) : leW w w := fun _ v h => ⟨v, Nat.le_refl _, h⟩
theorem leW.trans {a b c : Wt} (h : leW a b) (h' : leW b c) : leW a c := fun n v e => by
  obtain ⟨u, hu, e1⟩ := h' n v e
  obtain ⟨x, hx, e2⟩ := h n u e1
  exact ⟨x, by omega, e2⟩
theorem relax_le (w : Wt) (e : Edge) : leW (relax w e) w := fun n v h => by
  unfold relax
  cases h1 : addW w e.2 with
  | none => exact ⟨v, Nat.le_refl _, h⟩
  | some s =>
    simp only
    cases h2 : w e.1 with
    | none =>
      simp only
      by_cases c : n = e.1
      · rw [c, h2] at h; cases h
      · rw [if_neg c]; exact ⟨v, Nat.le_refl _, h⟩
    | some x =>
      simp only
      by_cases c2 : s + 1 < x
      · rw [if_pos c2]
        by_cases c : n = e.1
        · rw [if_pos c]
          rw [c, h2] at h
          have := Option.some.inj h
          exact ⟨s + 1, by omega, rfl⟩
        · rw [if_neg c]; exact ⟨v, Nat.le_refl _, h⟩
      · rw [if_neg c2]; exact ⟨v, Nat.le_refl _, h⟩
theorem relax_hit {w : Wt} {e : Edge} {s : Nat} (h1 : addW w e.2 = some s) : ∃ u, u ≤ s + 1 ∧ relax w e e.1 = some u := by
  unfold relax
  rw [h1]
  simp only
  cases h2 : w e.1 with
  | none => exact ⟨s + 1, Nat.le_refl _, by simp⟩
  | some x =>
    simp only
    by_cases c2 : s + 1 < x
    · rw [if_pos c2]; exact ⟨s + 1, Nat.le_refl _, by simp⟩
    · rw [if_neg c2]; exact ⟨x, by omega, h2⟩
theorem addW_mono {w w' : Wt} (h : leW w w') : ∀ {row : List Str} {s : Nat}, addW w' row = some s → ∃ u, u ≤ s ∧ addW w row = some u
  | [], s, e => ⟨0, Nat.zero_le _, rfl⟩
  | n :: t, s, e => by
    rw [addW] at e
    cases h1 : w' n with
    | none => rw [h1] at e; cases e
    | some a =>
      cases h2 : addW w' t with
      | none => rw [h1, h2] at e; cases e
      | some b =>
        rw [h1, h2] at e
        have e := Option.some.inj e
        obtain ⟨x, hx, e1⟩ := h n a h1
        obtain ⟨y, hy, e2⟩ := addW_mono h h2
        exact ⟨x + y, by omega, by rw [addW, e1, e2]⟩
theorem fold_le : ∀ (E : List Edge) (w : Wt), leW (E.foldl relax w) w
  | [], w => leW.refl w
  | e :: E, w => (fold_le E (relax w e)).trans (relax_le w e)
theorem fold_hit : ∀ {E : List Edge} {w : Wt} {e : Edge} {s : Nat}, e ∈ E → addW w e.2 = some s → ∃ u, u ≤ s + 1 ∧ (E.foldl relax w) e.1 = some u
  | [], _, _, _, h, _ => by cases h
  | x :: E, w, e, s, h, h1 => by
    rcases List.mem_cons.mp h with rfl | h
    · obtain ⟨u, hu, e1⟩ := relax_hit h1
      obtain ⟨y, hy, e2⟩ := fold_le E (relax w e) _ _ e1
      exact ⟨y, by omega, e2⟩
    · obtain ⟨u, hu, e1⟩ := addW_mono (relax_le w x) h1
      obtain ⟨y, hy, e2⟩ := fold_hit h e1
      exact ⟨y, by omega, e2⟩
/-! ### derivations by their heights and sizes -/
def Dv (E : List Edge) : Nat → Str → Nat → Prop
  | 0, _, _ => False
  | h + 1, n, v => ∃ row, (n, row) ∈ E ∧ ∃ vs : List Nat, vs.length = row.length ∧ (∀ p ∈ row.zip vs, Dv E h p.1 p.2) ∧ v = 1 + vs.sum
def Der (E : List Edge) (n : Str) (v : Nat) : Prop := ∃ h, Dv E h n v
theorem Dv.up {E : List Edge} : ∀ {h : Nat} {n : Str} {v : Nat}, Dv E h n v → Dv E (h + 1) n v
  | 0, _, _, d => d.elim
  | h + 1, n, v, ⟨row, hr, vs, hl, hd, e⟩ => ⟨row, hr, vs, hl, fun p hp => (hd p hp).up, e⟩
theorem Dv.mono {E : List Edge} {h k : Nat} {n : Str} {v : Nat} (d : Dv E h n v) (hk : h ≤ k) : Dv E k n v := by
  induction hk with
  | refl => exact d
  | step _ ih => exact ih.up
theorem Dv.sub {E E' : List Edge} (hE : ∀ e, e ∈ E → e ∈ E') : ∀ {h : Nat} {n : Str} {v : Nat}, Dv E h n v → Dv E' h n v
  | 0, _, _, d => d.elim
  | h + 1, n, v, ⟨row, hr, vs, hl, hd, e⟩ => ⟨row, hE _ hr, vs, hl, fun p hp => (hd p hp).sub hE, e⟩
/-- below: what has a derivation of height h is known, and as small -/
def Low (E : List Edge) (h : Nat) (w : Wt) : Prop := ∀ n v, Dv E h n v → ∃ u, u ≤ v ∧ w n = some u
def Sup (E : List Edge) (w : Wt) : Prop := ∀ n v, w n = some v → Der E n v
theorem addW_low {E : List Edge} {h : Nat} {w : Wt} (l : Low E h w) : ∀ {row : List Str} {vs : List Nat}, vs.length = row.length → (∀ p ∈ row.zip vs, Dv E h p.1 p.2) → ∃ s, s ≤ vs.sum ∧ addW w row = some s
  | [], [], _, _ => ⟨0, Nat.le_refl _, rfl⟩
  | [], _ :: _, e, _ => by simp at e
  | _ :: _, [], e, _ => by simp at e
  | n :: t, v :: vs, e, k => by
    obtain ⟨a, ha, e1⟩ := l n v (k (n, v) List.mem_cons_self)
    obtain ⟨b, hb, e2⟩ := addW_low l (row := t) (vs := vs) (by simpa using e) fun p hp => k p (List.mem_cons_of_mem _ hp)
    exact ⟨a + b, by rw [List.sum_cons]; omega, by rw [addW, e1, e2]⟩
theorem low_step {E : List Edge} {h : Nat} {w : Wt} (l : Low E h w) : Low E (h + 1) (E.foldl relax w) := fun n v ⟨row, hr, vs, hl, hd, e⟩ => by
  obtain ⟨s, hs, e1⟩ := addW_low l hl hd
  obtain ⟨u, hu, e2⟩ := fold_hit hr e1
  exact ⟨u, by omega, e2⟩
theorem addW_sup {E : List Edge} {w : Wt} (l : Sup E w) : ∀ {row : List Str} {s : Nat}, addW w row = some s → ∃ h, ∃ vs : List Nat, vs.length = row.length ∧ (∀ p ∈ row.zip vs, Dv E h p.1 p.2) ∧ s = vs.sum
  | [], s, e => ⟨0, [], rfl, fun p hp => (by cases hp), (Option.some.inj e).symm⟩
  | n :: t, s, e => by
    rw [addW] at e
    cases h1 : w n with
    | none => rw [h1] at e; cases e
    | some a =>
      cases h2 : addW w t with
      | none => rw [h1, h2] at e; cases e
      | some b =>
        rw [h1, h2] at e
        have e := Option.some.inj e
        obtain ⟨h, d⟩ := l n a h1
        obtain ⟨k, vs, hl, hd, es⟩ := addW_sup l h2
        refine ⟨max h k, a :: vs, by simp [hl], fun p hp => ?_, by rw [List.sum_cons]; omega⟩
        rw [List.zip_cons_cons] at hp
        rcases List.mem_cons.mp hp with rfl | hp
        · exact d.mono (Nat.le_max_left _ _)
        · exact (hd p hp).mono (Nat.le_max_right _ _)
theorem relax_sup {E : List Edge} {w : Wt} {e : Edge} (l : Sup E w) (he : e ∈ E) : Sup E (relax w e) := fun n v h => by
  unfold relax at h
  cases h1 : addW w e.2 with
  | none => rw [h1] at h; exact l n v h
  | some s =>
    have new : Der E e.1 (s + 1) := by
      obtain ⟨k, vs, hl, hd, es⟩ := addW_sup l h1
      exact ⟨k + 1, e.2, he, vs, hl, hd, by omega⟩
    rw [h1] at h
    simp only at h
    cases h2 : w e.1 with
    | none =>
      rw [h2] at h
      simp only at h
      by_cases c : n = e.1
      · rw [if_pos c] at h
        rw [c, ← Option.some.inj h]
        exact new
      · rw [if_neg c] at h; exact l n v h
    | some x =>
      rw [h2] at h
      simp only at h
      by_cases c2 : s + 1 < x
      · rw [if_pos c2] at h
        by_cases c : n = e.1
        · rw [if_pos c] at h
          rw [c, ← Option.some.inj h]
          exact new
        · rw [if_neg c] at h; exact l n v h
      · rw [if_neg c2] at h; exact l n v h
theorem fold_sup {E : List Edge} : ∀ {F : List Edge} {w : Wt}, Sup E w → (∀ e ∈ F, e ∈ E) → Sup E (F.foldl relax w)
  | [], _, l, _ => l
  | f :: F, w, l, h => fold_sup (F := F) (relax_sup l (h f List.mem_cons_self)) fun e he => h e (List.mem_cons_of_mem _ he)
/-! ### the least -/
theorem least {p : Nat → Prop} (h : ∃ n, p n) : ∃ n, p n ∧ ∀ m, p m → n ≤ m := by
  obtain ⟨n, hn⟩ := h
  induction n using Nat.strongRecOn with
  | ind n ih =>
    by_cases c : ∃ m, m < n ∧ p m
    · obtain ⟨m, hm, pm⟩ := c
      exact ih m hm pm
    · exact ⟨n, hn, fun m pm => Nat.le_of_not_lt fun l => c ⟨m, l, pm⟩⟩
open Classical in
noncomputable def muW (E : List Edge) : Wt := fun n => if h : ∃ v, Der E n v then some (Classical.choose (least h)) else none
theorem muW_some {E : List Edge} {n : Str} {v : Nat} (h : muW E n = some v) : Der E n v ∧ ∀ u, Der E n u → v ≤ u := by
  unfold muW at h
  split at h
  · rename_i hd
    have := Classical.choose_spec (least hd)
    rw [Option.some.inj h] at this
    exact this
  · cases h
theorem muW_of {E : List Edge} {n : Str} {u : Nat} (h : Der E n u) : ∃ v, muW E n = some v ∧ v ≤ u := by
  unfold muW
  rw [dif_pos ⟨u, h⟩]
  exact ⟨_, rfl, (Classical.choose_spec (least ⟨u, h⟩)).2 u h⟩
theorem muW_none {E : List Edge} {n : Str} (h : muW E n = none) : ∀ v, ¬ Der E n v := fun v d => by
  obtain ⟨u, e, _⟩ := muW_of d
  rw [h] at e
  cases e
theorem filter_lt {α : Type} {p q : α → Bool} : ∀ {xs : List α} {a : α}, (∀ x ∈ xs, p x = true → q x = true) → a ∈ xs → q a = true → p a = false → (xs.filter p).length < (xs.filter q).length
  | [], _, _, h, _, _ => by cases h
  | x :: xs, a, h, ha, hq, hp => by
    have hle : ∀ ys : List α, (∀ x ∈ ys, p x = true → q x = true) → (ys.filter p).length ≤ (ys.filter q).length := fun ys => by
      induction ys with
      | nil => intro _; exact Nat.le_refl _
      | cons y t ih =>
        intro k
        have := ih fun x hx => k x (List.mem_cons_of_mem _ hx)
        rw [List.filter_cons, List.filter_cons]
        by_cases c : p y = true
        · rw [if_pos c, if_pos (k y List.mem_cons_self c)]; exact Nat.succ_le_succ this
        · rw [if_neg c]
          split
          · exact Nat.le_succ_of_le this
          · exact this
    rcases List.mem_cons.mp ha with rfl | ha
    · rw [List.filter_cons, List.filter_cons, if_pos hq, if_neg (by rw [hp]; exact Bool.false_ne_true)]
      exact Nat.lt_succ_of_le (hle xs fun x hx => h x (List.mem_cons_of_mem _ hx))
    · have := filter_lt (xs := xs) (fun x hx => h x (List.mem_cons_of_mem _ hx)) ha hq hp
      rw [List.filter_cons, List.filter_cons]
      by_cases c : p x = true
      · rw [if_pos c, if_pos (h x List.mem_cons_self c)]; exact Nat.succ_lt_succ this
      · rw [if_neg c]
        split
        · exact Nat.lt_succ_of_lt this
        · exact this
/-- how many names weigh less than k -/
noncomputable def cntW (E : List Edge) (names : List Str) (k : Nat) : Nat := (names.filter fun m => match muW E m with
  | some v => decide (v < k)
  | none => false).length
theorem mem_zip_sum {row : List Str} {vs : List Nat} {p : Str × Nat} (h : p ∈ row.zip vs) : p.2 ≤ vs.sum := by
  have : p.2 ∈ vs := (List.of_mem_zip h).2
  clear h
  induction vs with
  | nil => cases this
  | cons x t ih =>
    rw [List.sum_cons]
    rcases List.mem_cons.mp this with h | h
    · omega
    · have := ih h; omega
theorem height {E : List Edge} {names : List Str} (hE : ∀ e ∈ E, e.1 ∈ names) : ∀ (k : Nat) (n : Str), muW E n = some k → Dv E (cntW E names k + 1) n k := fun k => by
  induction k using Nat.strongRecOn with
  | ind k ih =>
    intro n hn
    obtain ⟨⟨h, d⟩, hmin⟩ := muW_some hn
    cases h with
    | zero => exact d.elim
    | succ h =>
      obtain ⟨row, hr, vs, hl, hd, e⟩ := d
      -- the least of each
      have hus : ∀ (row : List Str) (vs : List Nat), vs.length = row.length → (∀ p ∈ row.zip vs, Dv E h p.1 p.2) → ∃ us : List Nat, us.length = row.length ∧ us.sum ≤ vs.sum ∧ ∀ p ∈ row.zip us, muW E p.1 = some p.2 := fun row => by
        induction row with
        | nil => intro vs hl hd; exact ⟨[], rfl, Nat.zero_le _, fun p hp => by cases hp⟩
        | cons x t ih2 =>
          intro vs hl hd
          cases vs with
          | nil => simp at hl
          | cons v vs =>
            obtain ⟨us, a1, a2, a3⟩ := ih2 vs (by simpa using hl) fun p hp => hd p (List.mem_cons_of_mem _ hp)
            obtain ⟨u, b1, b2⟩ := muW_of ⟨h, hd (x, v) List.mem_cons_self⟩
            refine ⟨u :: us, by simp [a1], by rw [List.sum_cons, List.sum_cons]; simp only at b2; omega, fun p hp => ?_⟩
            rw [List.zip_cons_cons] at hp
            rcases List.mem_cons.mp hp with rfl | hp
            · exact b1
            · exact a3 p hp
      obtain ⟨us, a1, a2, a3⟩ := hus row vs hl hd
      have hder : Der E n (1 + us.sum) := by
        have : ∃ H, ∀ p ∈ row.zip us, Dv E H p.1 p.2 := by
          have : ∀ l : List (Str × Nat), (∀ p ∈ l, muW E p.1 = some p.2) → ∃ H, ∀ p ∈ l, Dv E H p.1 p.2 := fun l => by
            induction l with
            | nil => intro _; exact ⟨0, fun p hp => by cases hp⟩
            | cons y t ih2 =>
              intro k
              obtain ⟨H1, d1⟩ := ih2 fun p hp => k p (List.mem_cons_of_mem _ hp)
              obtain ⟨⟨H2, d2⟩, _⟩ := muW_some (k y List.mem_cons_self)
              refine ⟨max H1 H2, fun p hp => ?_⟩
              rcases List.mem_cons.mp hp with rfl | hp
              · exact d2.mono (Nat.le_max_right _ _)
              · exact (d1 p hp).mono (Nat.le_max_left _ _)
          exact this _ a3
        obtain ⟨H, hH⟩ := this
        exact ⟨H + 1, row, hr, us, a1, hH, rfl⟩
      have hk := hmin _ hder
      refine ⟨row, hr, us, a1, fun p hp => ?_, by omega⟩
      have hp2 := mem_zip_sum hp
      have hlt : p.2 < k := by omega
      have hmu := a3 p hp
      have hpn : p.1 ∈ names := by
        obtain ⟨⟨H, d⟩, _⟩ := muW_some hmu
        cases H with
        | zero => exact d.elim
        | succ H =>
          obtain ⟨r, hr, _⟩ := d
          exact hE _ hr
      refine (ih p.2 hlt p.1 hmu).mono ?_
      unfold cntW
      refine filter_lt (a := p.1) (fun x _ h1 => ?_) hpn ?_ ?_
      · cases hx : muW E x with
        | none => rw [hx] at h1; cases h1
        | some v => rw [hx] at h1; simp only [decide_eq_true_eq] at h1 ⊢; omega
      · rw [hmu]; simp only [decide_eq_true_eq]; exact hlt
      · rw [hmu]; simp
theorem height_le {E : List Edge} {names : List Str} (hE : ∀ e ∈ E, e.1 ∈ names) {n : Str} {k : Nat} (h : muW E n = some k) : Dv E names.length n k := by
  refine (height hE k n h).mono ?_
  have hn : n ∈ names := by
    obtain ⟨⟨H, d⟩, _⟩ := muW_some h
    cases H with
    | zero => exact d.elim
    | succ H =>
      obtain ⟨r, hr, _⟩ := d
      exact hE _ hr
  have := filter_lt (p := fun m => match muW E m with
    | some v => decide (v < k)
    | none => false) (q := fun _ => true) (xs := names) (a := n) (fun _ _ _ => rfl) hn rfl (by rw [h]; simp)
  have e : names.filter (fun _ => true) = names := List.filter_eq_self.mpr fun _ _ => rfl
  rw [e] at this
  exact this
/-- what is borne out and as small as all derivations of that height is the least -/
theorem muW_unique {E : List Edge} {names : List Str} (hE : ∀ e ∈ E, e.1 ∈ names) {w : Wt} (s : Sup E w) {h : Nat} (l : Low E h w) (hh : names.length ≤ h) : w = muW E := funext fun n => by
  cases e : muW E n with
  | none =>
    cases e2 : w n with
    | none => rfl
    | some v => exact absurd (s n v e2) (muW_none e v)
  | some k =>
    obtain ⟨u, hu, e2⟩ := l n k ((height_le hE e).mono hh)
    have := (muW_some e).2 u (s n u e2)
    rw [e2, show u = k by omega]
theorem muW_congr {E E' : List Edge} (h : ∀ e, e ∈ E ↔ e ∈ E') : muW E = muW E' := funext fun n => by
  have hd : ∀ v, Der E n v ↔ Der E' n v := fun v => ⟨fun ⟨k, d⟩ => ⟨k, d.sub fun e he => (h e).mp he⟩, fun ⟨k, d⟩ => ⟨k, d.sub fun e he => (h e).mpr he⟩⟩
  cases e : muW E n with
  | none =>
    cases e2 : muW E' n with
    | none => rfl
    | some v => exact absurd ((hd v).mpr (muW_some e2).1) (muW_none e v)
  | some k =>
    obtain ⟨v, e2, hv⟩ := muW_of ((hd k).mp (muW_some e).1)
    have := (muW_some e).2 v ((hd v).mpr (muW_some e2).1)
    rw [e2, show v = k by omega]
/-- rounds -/
def rounds (E : List Edge) : Nat → Wt
  | 0 => fun _ => none
  | t + 1 => E.foldl relax (rounds E t)
theorem rounds_sup (E : List Edge) : ∀ t, Sup E (rounds E t)
  | 0 => fun n v h => by cases h
  | t + 1 => fold_sup (rounds_sup E t) fun _ h => h
theorem rounds_low (E : List Edge) : ∀ t, Low E t (rounds E t)
  | 0 => fun n v h => h.elim
  | t + 1 => low_step (rounds_low E t)
theorem rounds_mu {E : List Edge} {names : List Str} (hE : ∀ e ∈ E, e.1 ∈ names) {t : Nat} (h : names.length ≤ t) : rounds E t = muW E := muW_unique hE (rounds_sup E t) (rounds_low E t) h
/-- at the least nothing changes -/
theorem muW_fix {E : List Edge} {e : Edge} (he : e ∈ E) {s : Nat} (h : addW (muW E) e.2 = some s) : ∃ v, muW E e.1 = some v ∧ v ≤ s + 1 := by
  have sup : Sup E (muW E) := fun n v h => (muW_some h).1
  obtain ⟨k, vs, hl, hd, es⟩ := addW_sup sup h
  obtain ⟨v, e1, hv⟩ := muW_of (E := E) (n := e.1) ⟨k + 1, e.2, he, vs, hl, hd, rfl⟩
  exact ⟨v, e1, by omega⟩
theorem relax_mu {E : List Edge} {e : Edge} (he : e ∈ E) : relax (muW E) e = muW E := by
  unfold relax
  cases h : addW (muW E) e.2 with
  | none => rfl
  | some s =>
    obtain ⟨v, e1, hv⟩ := muW_fix he h
    simp only
    rw [e1]
    simp only
    rw [if_neg (by omega)]

theorem rounds_stop {E : List Edge} {names : List Str} (hE : ∀ e ∈ E, e.1 ∈ names) {t : Nat} (h : rounds E (t + 1) = rounds E t) : rounds E t = muW E := by
  have : ∀ k, rounds E (t + k) = rounds E t := fun k => by
    induction k with
    | zero => rfl
    | succ k ih =>
      show (E.foldl relax (rounds E (t + k))) = _
      rw [ih]
      exact h
  rw [← this names.length]
  exact rounds_mu hE (Nat.le_add_left _ _)
/-! ### weights in a dict -/
def optV : Option Nat → V
  | none => .non
  | some k => .int (k : Int)
theorem optV_inj {a b : Option Nat} (h : optV a = optV b) : a = b := by
  cases a <;> cases b
  · rfl
  · cases h
  · cases h
  · have := V.int.inj h
    rw [show _ = _ from Int.ofNat.inj this]
def kvsW (names : List Str) (w : Wt) : List (Key × V) := names.map fun n => ((Sum.inr n : Key), optV (w n))
theorem valV_step (k : Key) (v : V) (r : List (Key × V)) (q : Key) : valV ((k, v) :: r) q = if k = q then some v else valV r q := by
  unfold valV
  rw [List.find?_cons]
  by_cases c : k = q
  · simp [c]
  · simp [c]
theorem kvsW_val {names : List Str} {w : Wt} {n : Str} (h : n ∈ names) : valV (kvsW names w) (Sum.inr n : Key) = some (optV (w n)) := by
  induction names with
  | nil => cases h
  | cons x t ih =>
    unfold kvsW at *
    rw [List.map_cons, valV_step]
    by_cases c : x = n
    · rw [if_pos (by rw [c]), c]
    · rw [if_neg (fun z => c (Sum.inr.inj z))]
      rcases List.mem_cons.mp h with h | h
      · exact absurd h.symm c
      · exact ih h
theorem kvsW_put {names : List Str} {w : Wt} {n : Str} (h : n ∈ names) (s : Nat) : putK (kvsW names w) (Sum.inr n : Key) (.int ((s : Int) + 1)) = kvsW names (fun m => if m = n then some (s + 1) else w m) := by
  have ha : ((kvsW names w).any fun kv => decide (kv.1 = (Sum.inr n : Key))) = true := by
    rw [List.any_eq_true]
    exact ⟨(Sum.inr n, optV (w n)), List.mem_map.mpr ⟨n, h, rfl⟩, decide_eq_true rfl⟩
  unfold putK
  rw [if_pos ha]
  unfold kvsW
  rw [List.map_map]
  refine List.map_congr_left fun m _ => ?_
  show (if (Sum.inr m : Key) = Sum.inr n then ((Sum.inr m : Key), V.int ((s : Int) + 1)) else ((Sum.inr m : Key), optV (w m))) = _
  by_cases c : m = n
  · rw [if_pos (by rw [c])]; simp only; rw [if_pos c]; rfl
  · rw [if_neg (fun z => c (Sum.inr.inj z))]; simp only; rw [if_neg c]
theorem kvsW_len (names : List Str) (w : Wt) : (kvsW names w).length = names.length := by unfold kvsW; rw [List.length_map]
/-- the edges of the rules, by names and as they stand -/
def edN (rs : List Rule) (n : Str) : List Edge := (rulesOf rs n).map fun p => (n, p.2)
def edP (names : List Str) (rs : List Rule) : List Edge := names.flatMap (edN rs)
def edR (rs : List Rule) : List Edge := rs.map fun r => (r.1, r.2.2)
theorem mem_edN {rs : List Rule} {n : Str} {e : Edge} : e ∈ edN rs n ↔ e.1 = n ∧ ∃ l, (n, l, e.2) ∈ rs := by
  unfold edN
  rw [List.mem_map]
  constructor
  · rintro ⟨p, hp, rfl⟩
    exact ⟨rfl, p.1, mem_rulesOf.mp hp⟩
  · rintro ⟨rfl, l, hl⟩
    exact ⟨(l, e.2), mem_rulesOf.mpr hl, rfl⟩
theorem mem_edP {names : List Str} {rs : List Rule} (h : ∀ r ∈ rs, r.1 ∈ names) {e : Edge} : e ∈ edP names rs ↔ e ∈ edR rs := by
  unfold edP edR
  rw [List.mem_flatMap, List.mem_map]
  constructor
  · rintro ⟨n, hn, he⟩
    obtain ⟨h1, l, hl⟩ := mem_edN.mp he
    exact ⟨_, hl, by rw [← h1]⟩
  · rintro ⟨r, hr, rfl⟩
    exact ⟨r.1, h r hr, mem_edN.mpr ⟨rfl, r.2.1, hr⟩⟩
/-- the norms of a grammar's names -/
noncomputable def normW (rs : List Rule) : Wt := muW (edR rs)
theorem normW_edP {names : List Str} {rs : List Rule} (h : ∀ r ∈ rs, r.1 ∈ names) : muW (edP names rs) = normW rs := muW_congr fun _ => mem_edP h
theorem edP_fst {names : List Str} {rs : List Rule} : ∀ e ∈ edP names rs, e.1 ∈ names := fun e he => by
  obtain ⟨n, hn, h⟩ := List.mem_flatMap.mp he
  rw [(mem_edN.mp h).1]
  exact hn
/-- encoded -/
def oD : Option Nat → PyData
  | none => .none
  | some k => .int (k : Int)
theorem enc_oD : Enc oD := fun a b => by
  cases a with
  | none => cases b with
    | none => simp [oD, PyData.eqv]
    | some y => simp [oD, PyData.eqv]
  | some x => cases b with
    | none => simp [oD, PyData.eqv]
    | some y =>
      show PyData.eqv (.int (x : Int)) (.int (y : Int)) = _
      have h := enc_int (x : Int) (y : Int)
      rw [h]
      by_cases c : x = y
      · simp [c]
      · have : ¬ (x : Int) = (y : Int) := by omega
        simp [c, this]
theorem dep_oD : Dep oD 0 := fun a => by
  cases a <;> exact Nat.zero_le _
theorem dpAll_oD {K : PySem.W.Frag} {H : Hp} : ∀ xs : List (Option Nat), DpAll K H (xs.map optV) (xs.map oD)
  | [] => .nil
  | none :: r => .cons .non (dpAll_oD r)
  | some k :: r => .cons (.int _) (dpAll_oD r)
theorem addW_none {w : Wt} : ∀ {row : List Str}, addW w row = none ↔ none ∈ row.map w
  | [] => by simp [addW]
  | n :: t => by
    rw [addW, List.map_cons, List.mem_cons, ← addW_none (row := t)]
    cases h1 : w n with
    | none => simp
    | some a =>
      cases h2 : addW w t with
      | none => simp
      | some b => simp
theorem addW_some {w : Wt} : ∀ {row : List Str} {s : Nat}, addW w row = some s → ∃ ns : List Int, (row.map w).map optV = ns.map V.int ∧ ns.sum = (s : Int)
  | [], s, e => ⟨[], rfl, by rw [← Option.some.inj e]; rfl⟩
  | n :: t, s, e => by
    rw [addW] at e
    cases h1 : w n with
    | none => rw [h1] at e; cases e
    | some a =>
      cases h2 : addW w t with
      | none => rw [h1, h2] at e; cases e
      | some b =>
        rw [h1, h2] at e
        have e := Option.some.inj e
        obtain ⟨ns, e1, e2⟩ := addW_some h2
        refine ⟨(a : Int) :: ns, by rw [List.map_cons, List.map_cons, h1, e1]; rfl, by rw [List.sum_cons, e2]; omega⟩

/-- names without a norm -/
def endl (names : List Str) (w : Wt) : List Str := names.filter fun n => (w n).isNone
theorem filter_snoc {α : Type} (p : α → Bool) (xs : List α) (x : α) : (xs ++ [x]).filter p = if p x = true then xs.filter p ++ [x] else xs.filter p := by
  rw [List.filter_append, List.filter_cons]
  by_cases c : p x = true
  · rw [if_pos c, if_pos c]; rfl
  · rw [if_neg c, if_neg c, List.filter_nil, List.append_nil]
theorem isNone_dec (o : Option Nat) : decide (optV o = V.non) = o.isNone := by
  cases o with
  | none => simp [optV]
  | some k => simp [optV]
theorem addW_perm {w : Wt} {xs ys : List Str} (h : xs.Perm ys) : addW w xs = addW w ys := by
  induction h with
  | nil => rfl
  | cons x _ ih => rw [addW, addW, ih]
  | swap x y l =>
    rw [addW, addW, addW, addW]
    cases w x <;> cases w y <;> cases addW w l <;> simp
    omega
  | trans _ _ h1 h2 => exact h1.trans h2

/-! ### the law's own weighing: no weight comes near its limit -/
def WAt (kvs : List (Key × V)) (w : Wt) : Prop := ∀ n : Str, valV kvs (Sum.inr n : Key) = (w n).map fun k => V.int (k : Int)
def cntA (names : List Str) (w : Wt) : Nat := (names.filter fun n => (w n).isSome).length
def Bd (names : List Str) (w : Wt) : Prop := ∀ n v, w n = some v → v ≤ 4 ^ cntA names w
theorem addW_le {w : Wt} {B : Nat} (h : ∀ n v, w n = some v → v ≤ B) : ∀ {row : List Str} {s : Nat}, addW w row = some s → s ≤ row.length * B
  | [], s, e => by rw [← Option.some.inj e]; exact Nat.zero_le _
  | n :: t, s, e => by
    rw [addW] at e
    cases h1 : w n with
    | none => rw [h1] at e; cases e
    | some a =>
      cases h2 : addW w t with
      | none => rw [h1, h2] at e; cases e
      | some b =>
        rw [h1, h2] at e
        have e := Option.some.inj e
        have h3 := h n a h1
        have h4 := addW_le h h2
        rw [List.length_cons, Nat.succ_mul]
        omega
theorem cntA_le (names : List Str) (w : Wt) : cntA names w ≤ names.length := List.length_filter_le _ _
theorem bd_sum {names : List Str} {w : Wt} (b : Bd names w) {row : List Str} {s : Nat} (hr : row.length ≤ 3) (h : addW w row = some s) : s ≤ 3 * 4 ^ cntA names w := by
  have := addW_le b h
  exact Nat.le_trans this (Nat.mul_le_mul_right _ hr)
theorem pow_le_big {k : Nat} (h : k ≤ 6) : 4 ^ k ≤ 4096 := Nat.le_trans (Nat.pow_le_pow_right (by decide) h) (by decide)
theorem relax_bd {names : List Str} {w : Wt} (b : Bd names w) {e : Edge} (he : e.1 ∈ names) (hr : e.2.length ≤ 3) : Bd names (relax w e) := by
  unfold relax
  cases h : addW w e.2 with
  | none => exact b
  | some s =>
    have hs := bd_sum b hr h
    simp only
    cases h2 : w e.1 with
    | none =>
      simp only
      have hlt : cntA names w < cntA names (fun m => if m = e.1 then some (s + 1) else w m) := by
        refine filter_lt (a := e.1) (fun x _ hx => ?_) he (by simp) (by rw [h2]; rfl)
        simp only
        split
        · rfl
        · exact hx
      have hpow : 4 ^ (cntA names w + 1) ≤ 4 ^ cntA names (fun m => if m = e.1 then some (s + 1) else w m) := Nat.pow_le_pow_right (by decide) hlt
      have h1 : 1 ≤ 4 ^ cntA names w := Nat.pow_pos (by decide)
      rw [Nat.pow_succ] at hpow
      intro n v hv
      simp only at hv
      split at hv
      · have := Option.some.inj hv
        omega
      · have := b n v hv
        omega
    | some x =>
      simp only
      by_cases c : s + 1 < x
      · rw [if_pos c]
        have hc : cntA names (fun m => if m = e.1 then some (s + 1) else w m) = cntA names w := by
          unfold cntA
          congr 1
          refine List.filter_congr fun m _ => ?_
          simp only
          by_cases cm : m = e.1
          · rw [if_pos cm, cm, h2]; rfl
          · rw [if_neg cm]
        intro n v hv
        rw [hc]
        simp only at hv
        split at hv
        · have := Option.some.inj hv
          have := b _ _ h2
          omega
        · exact b n v hv
      · rw [if_neg c]
        exact b
theorem fold_bd {names : List Str} : ∀ {F : List Edge} {w : Wt}, Bd names w → (∀ e ∈ F, e.1 ∈ names ∧ e.2.length ≤ 3) → Bd names (F.foldl relax w)
  | [], _, b, _ => b
  | f :: F, w, b, h => fold_bd (F := F) (relax_bd b (h f List.mem_cons_self).1 (h f List.mem_cons_self).2) fun e he => h e (List.mem_cons_of_mem _ he)
theorem rounds_bd {names : List Str} {E : List Edge} (h : ∀ e ∈ E, e.1 ∈ names ∧ e.2.length ≤ 3) : ∀ t, Bd names (rounds E t)
  | 0 => fun n v e => by cases e
  | t + 1 => fold_bd (rounds_bd h t) h
theorem edR_take (rs : List Rule) (i : Nat) : edR (rs.take i) = (edR rs).take i := by unfold edR; rw [List.map_take]
/-- names of a row without a weight -/
theorem lacks_nil {w : Wt} {row : List Str} : row.filter (fun x => (w x).isNone) = [] ↔ addW w row ≠ none := by
  rw [List.filter_eq_nil_iff, ne_eq, addW_none, List.mem_map]
  constructor
  · rintro h ⟨x, hx, e⟩
    exact h x hx (by rw [e]; rfl)
  · intro h x hx e
    exact h ⟨x, hx, by simpa using e⟩
theorem WAt.put {kvs : List (Key × V)} {w : Wt} (h : WAt kvs w) (n : Str) (s : Nat) : WAt (putK kvs (Sum.inr n : Key) (.int (s : Int))) (fun m => if m = n then some s else w m) := fun m => by
  rw [valV_put]
  by_cases c : m = n
  · rw [if_pos (by rw [c])]; simp only; rw [if_pos c]; rfl
  · rw [if_neg (fun z => c (Sum.inr.inj z))]; simp only; rw [if_neg c]; exact h m
/-- what the law writes is the round's weight -/
theorem relax_min {w : Wt} {e : Edge} {s : Nat} (h : addW w e.2 = some s) : relax w e = fun m => if m = e.1 then some (match w e.1 with
    | none => s + 1
    | some v => if s + 1 < v then s + 1 else v) else w m := by
  unfold relax
  rw [h]
  simp only
  cases h2 : w e.1 with
  | none => rfl
  | some v =>
    simp only
    by_cases c : s + 1 < v
    · rw [if_pos c, if_pos c]
    · rw [if_neg c, if_neg c]
      funext m
      by_cases cm : m = e.1
      · rw [if_pos cm, cm, h2]
      · rw [if_neg cm]
end SG
/-! d.values(), max(d.values()), x in d.values() -/
namespace SG
open PySem PySem.Spec PyProof.Rows L2
section
variable {X : Cx} {pins : List (Addr × Obj)} {σ : L2.St} {H : Hp} {s : Shared} {a : Addr} {kvs : List (Key × V)}
/-- a tracked dict: its object, its entries -/
theorem dk_entries (I : Inv X pins σ H s) (e : H a = some (.dK kvs)) : ∃ (o : Obj) (es : Array DictEntry) (ep : Nat), s.heap.get? a = some o ∧ o.data = .dict es ep ∧ es.size = kvs.length ∧ (a == sysModules) = false ∧
    ∀ (i : Nat) (k : Key) (v : V), kvs[i]? = some (k, v) → ∃ e, es[i]? = some e ∧ RelV v e.val := by
  obtain ⟨hz, hsm, vs, rel, o, es, ep, ho, _, hd, hk, hp, hn⟩ := dk_of I.hok e
  have e1 := hp.length
  rw [Array.length_toList] at e1
  refine ⟨o, es, ep, ho, hd, by rw [e1, rel.length], hsm, fun i k v h => ?_⟩
  obtain ⟨u, hu, ru⟩ := kv_get rel h
  have hi : i < es.size := by
    rw [e1, ← rel.length]
    exact (List.getElem?_eq_some_iff.mp h).1
  have he : es[i]? = some es[i] := Array.getElem?_eq_getElem hi
  obtain ⟨h1, h2⟩ := hp.get? (e := es[i]) (by simp [hi]) hu
  refine ⟨es[i], he, ?_⟩
  rw [h2]
  exact ru
/-- e.values() -/
def tVals (t : TE) : TE := fun σ H Q => t σ H fun x H1 => ∃ d kvs, x = .ref d ∧ H1 d = some (.dK kvs) ∧ ∀ p, H1 p = none → Q (.ref p) (upd H1 p (viewO "dict_values" p d))
theorem pe_vals {e : Expr} {t : TE} {apos cpos : Pos} (he : PE X e t) (hbase : attributeBase e "values" X.env (eval e X.env) = eval e X.env := by rfl) (hline : (apos.endLine == cpos.line) = true := by rfl) : PE X (.Call (.Attribute e "values" apos) [] [] cpos) (tVals t) := by
  refine ⟨fun pins s σ H Q I h => ?_⟩
  refine wpAny_Call_method (T := "dict") (id := "dict.values") hbase rfl hline F.plainAttrs_dict F.slot_dict_values F.type_dict_values (thn (he.run pins s σ H _ I h) fun u s1 ⟨x, H1, I1, rx, d, kvs, ex, hd, q⟩ => ?_)
  subst ex
  obtain rfl : u = Value.ref d := rx
  obtain ⟨hz, hsm, vs, rel, dd⟩ := dk_of I1.hok hd
  refine ⟨dd.typeIs, dd.mapOf.noDict, ?_⟩
  show wpAny _ _ (callWith cpos (.builtin "dict.values") [.ref d] [] []) _ X.xe s1
  exact method_meetsIn F.slot_dict_values F.entry_dict_values rfl (PySem.evalArgs_none ⟨rfl, dd.typeIs, F.args_dict_values_1 _, _, meets_dict_values (mixKind X.prog X.w) d hsm, ⟨vs, dd⟩,
    ⟨.ref s1.heap.objs.size, _, I1.laid (t' := s1.toks) (fun b o q => Heap.get?_push_of_some _ q) (Nat.le_refl _) (viewO_ok (Heap.get?_push_size _ rfl)), rfl, q _ (I1.hok.fresh (Nat.le_refl _))⟩⟩)
/-- max of the values, whole numbers -/
def rMaxV : List V → Hp → VK → Prop := fun xs H Q => ∃ (p a : Addr) (kvs : List (Key × V)) (ns : List Int), xs = [.ref p] ∧ H p = some (viewO "dict_values" p a) ∧ H a = some (.dK kvs) ∧ kvs.map Prod.snd = ns.map V.int ∧ 0 < ns.length ∧ ∀ m, m ∈ ns → (∀ y, y ∈ ns → y ≤ m) → Q (.int m) H
theorem cr_maxV (hc : X.calm = true) : CallR X (.builtin "max") rMaxV := by
  intro pins s σ H xs us Q I rx h
  obtain ⟨p, a, kvs, ns, rfl, hp, hd, hns, hne, q⟩ := h
  rw [Vals.ref1 rx]
  obtain ⟨ob, es, ep, hob, hdd, hsz0, hsm, hent⟩ := dk_entries I hd
  have hv : s.heap.get? p = some (DSub.viewOb "dict_values" a) := (show ObjOk X.prog X.w H s.heap p (viewO "dict_values" p a) from I.hok p _ hp).1
  have hkn : kvs.length = ns.length := by
    have e := congrArg List.length hns
    rw [List.length_map, List.length_map] at e
    exact e
  have hsz : es.size = ns.length := hsz0.trans hkn
  have hP : ∀ (i : Nat) (e : DictEntry), es[i]? = some e → ∃ t, e.val = .int (ns.getD i 0) t := fun i e he => by
    have hi : i < es.size := by
      rcases Nat.lt_or_ge i es.size with z | z
      · exact z
      · rw [Array.getElem?_eq_none z] at he
        cases he
    have hi2 : i < kvs.length := by omega
    have hi3 : i < ns.length := by omega
    obtain ⟨e', he', r⟩ := hent i kvs[i].1 kvs[i].2 (List.getElem?_eq_getElem hi2)
    have e1 : e' = e := Option.some.inj (he'.symm.trans he)
    have e2 : kvs[i].2 = V.int ns[i] := by
      have z : (kvs.map Prod.snd)[i]? = (ns.map V.int)[i]? := by rw [hns]
      rw [List.getElem?_map, List.getElem?_map, List.getElem?_eq_getElem hi2, List.getElem?_eq_getElem hi3] at z
      exact Option.some.inj z
    have e3 : ns.getD i 0 = ns[i] := by rw [List.getD_eq_getElem?_getD, List.getElem?_eq_getElem hi3] <;> rfl
    rw [e1, e2] at r
    rw [e3]
    exact r
  refine call_max_walk ?_
  refine DSub.iter_vals hv hob hdd ?_
  have ha : a < s.heap.objs.size := Heap.lt_size hob
  refine ⟨s.heap.objs.size, [s.heap.objs.size, a], [s.heap.objs.size], es.size, fun i v => ∃ t, v = .int (ns.getD i 0) t, _, fun i j => decide (ns.getD i 0 > ns.getD j 0), rfl, DSub.walksVal (a := a) (show X.A.in1.handled = none from I.ok.hd hc) (Nat.ne_of_lt ha) hdd hP, ⟨Heap.get?_push_size _ rfl, Heap.get?_push_of_some _ hob⟩, fun b hb => ?_, by omega, CmpOf.ints_gt (fun i => ns.getD i 0) (fun i v z => z), fun v h' tk hv' hk => ?_⟩
  · show b < (s.heap.push _).objs.size
    rw [size_push']
    rcases List.mem_cons.mp hb with z | z
    · rw [z]
      exact Nat.lt_succ_self _
    · rw [List.mem_singleton.mp z]
      exact Nat.lt_succ_of_lt ha
  · obtain ⟨t, rfl⟩ := hv'
    obtain ⟨m1', m2'⟩ := argBest_gt (fun i => ns.getD i 0) (es.size - 1)
    have m1 : argBest (fun i j => decide (ns.getD i 0 > ns.getD j 0)) (es.size - 1) ≤ es.size - 1 := m1'
    have m2 : ∀ j, j ≤ es.size - 1 → ns.getD j 0 ≤ ns.getD (argBest (fun i j => decide (ns.getD i 0 > ns.getD j 0)) (es.size - 1)) 0 := m2'
    have hk2 : ∀ b o, s.heap.get? b = some o → h'.get? b = some o := fun b o e => hk b o (fun z => by rw [List.mem_singleton.mp z] at e; exact absurd (Heap.lt_size e) (Nat.lt_irrefl _)) (Heap.get?_push_of_some _ e)
    refine ⟨.int _, H, I.kept (t' := tk) hk2, ⟨t, rfl⟩, q _ (PySem.getD_mem (by omega)) fun y hy => ?_⟩
    obtain ⟨j, hj, e⟩ := List.mem_iff_getElem.mp hy
    have z := m2 j (by omega)
    have e3 : ns.getD j 0 = y := by rw [List.getD_eq_getElem?_getD, List.getElem?_eq_getElem hj, ← e] <;> rfl
    rw [← e3]
    exact z
end
theorem itT {b : Bool} {A B : Prop} (hb : b = true) (h : A) : if b = true then A else B := by rw [if_pos hb]; exact h
theorem itF {b : Bool} {A B : Prop} (hb : b = false) (h : B) : if b = true then A else B := by rw [hb]; exact iteF h
/-! x in d.values() -/
theorem plain_ci : plainId "proto.contains_iter" = true := by decide +kernel
theorem entry_ci : entryFor table "proto.contains_iter" = some Builtin.«proto.contains_iter» := entryFor_of_tree (by kernel_rfl)
theorem nocontains : typeLookup (.type "dict_values") (Str.ofString "__contains__") = pure none := by kernel_rfl
section
variable {prog : Program} {w : World} {A : Around} {I : Addr} {fp wr : List Addr} {n : Nat} {P : Nat → Value → Prop} {St : Nat → Heap → Prop} {R : Result → Shared → Prop}
theorem codeAny_ci (W : Walks prog w A.in1 I fp wr n P St) (ds : List PyData) (d : PyData) (x : Value) (hn : ds.length = n) (hP : ∀ i v, P i v → ∃ di, ds[i]? = some di ∧ ∀ h, Reads h v di []) (hl : ∀ z ∈ ds, z.canLay0 = true ∧ z.depth = 0) (hx : ∀ h, Reads h x d []) (hd : d.canLay0 = true) (hu : A.units + 2 < cLine) :
    ∀ (k i : Nat) (s : Shared), n - i = k → i ≤ n → St i s.heap →
      (∀ h' tk, (∀ b o, b ∉ wr → s.heap.get? b = some o → h'.get? b = some o) → R (.ok (.ret (.bool ((ds.drop i).any fun z => PyData.eqv z d)))) { s with heap := h', toks := tk }) →
      codeAny (model prog w) A (.builtin "proto.contains_iter" ⟨[.ref I, x], []⟩) R s := by
  intro k
  induction k with
  | zero =>
    intro i s hk hi hst hR
    have e : i = n := by omega
    subst e
    refine codeAny_builtin entry_ci ?_
    rw [Around.under_plainId plain_ci _]
    show wpAny _ A.in1 (pyNext (.ref I) >>= _) _ _ s
    refine wpAny_bind (W.done s _ _ hst fun h' tk hk' => ?_)
    refine wpAny_bind (wpAny_rule (wpAny_pure ?_))
    have := hR h' tk hk'
    rw [List.drop_of_length_le (by omega)] at this
    exact this
  | succ k ih =>
    intro i s hk hi hst hR
    have hlt : i < n := by omega
    refine codeAny_builtin entry_ci ?_
    rw [Around.under_plainId plain_ci _]
    show wpAny _ A.in1 (pyNext (.ref I) >>= _) _ _ s
    refine wpAny_bind (W.item i s _ _ hlt hst fun v h' tk hp hst' hk' => ?_)
    obtain ⟨di, hdi, hrd⟩ := hP i v hp
    obtain ⟨l1, l2⟩ := hl di (List.mem_of_getElem? hdi)
    have hdrop : ds.drop i = di :: ds.drop (i + 1) := by
      obtain ⟨hl2, hx2⟩ := List.getElem?_eq_some_iff.mp hdi
      rw [List.drop_eq_getElem_cons hl2, hx2]
    refine wpAny_bind (SeqAt.eqBoolOverData prog w A.in1 _ _ v x di d [] [] _ (hrd _) (hx _) l1 hd (by
      have : A.in1.units = A.units + 1 := by first | rfl | simp [Around.in1]
      have : min di.depth d.depth = 0 := by rw [l2]; exact Nat.zero_min _
      omega) ?_)
    cases he : PyData.eqv di d with
    | true =>
      refine wpAny_bind (wpAny_rule (wpAny_pure ?_))
      have := hR h' tk hk'
      rw [hdrop, List.any_cons, he] at this
      exact this
    | false =>
      refine wpAny_pure ⟨plainId_quiet plain_ci _, ih (i + 1) _ (by omega) (by omega) hst' fun h'' tk' hk'' => ?_⟩
      have := hR h'' tk' fun b o hb e => hk'' b o hb (hk' b o hb e)
      rw [hdrop, List.any_cons, he] at this
      exact this
end
section
variable {X : Cx}
/-- a scalar as data -/
def scD : V → PyData
  | .int i => .int i
  | .non => .none
  | .bl b => .bool b
  | .str z => .str z
  | _ => .none
def ScV (v : V) : Prop := (∃ i, v = .int i) ∨ v = .non
theorem scv_reads {v : V} {u : Value} (k : ScV v) (r : RelV v u) (h : Heap) : Reads h u (scD v) [] := by
  rcases k with ⟨i, rfl⟩ | rfl
  · obtain ⟨t, rfl⟩ := r
    exact .int _ _
  · cases r
    exact .none
theorem scv_lay {v : V} (k : ScV v) : (scD v).canLay0 = true ∧ (scD v).depth = 0 := by
  rcases k with ⟨i, rfl⟩ | rfl <;> exact ⟨by rw [scD, PyData.canLay0], by rw [scD, PyData.depth]⟩
def rInV : V → V → Hp → VK → Prop := fun x v H Q => ∃ (p a : Addr) (kvs : List (Key × V)), v = .ref p ∧ ScV x ∧ H p = some (viewO "dict_values" p a) ∧ H a = some (.dK kvs) ∧ (∀ q ∈ kvs, ScV q.2) ∧ Q (.bl ((kvs.map (·.2)).any fun z => PyData.eqv (scD z) (scD x))) H
theorem in_view {pins : List (Addr × Obj)} {σ : L2.St} {H : Hp} {s : Shared} {x : V} {u : Value} {p a : Addr} {kvs : List (Key × V)} {Q : Bool → Shared → Prop} {E : Value → Shared → Prop} (hc : X.calm = true) (hu : X.A.units + 64 < cLine) (I : Inv X pins σ H s) (r : RelV x u) (sx : ScV x) (hp : H p = some (viewO "dict_values" p a)) (hd : H a = some (.dK kvs)) (hs : ∀ q ∈ kvs, ScV q.2)
    (h : ∀ s', Inv X pins σ H s' → Q ((kvs.map (·.2)).any fun z => PyData.eqv (scD z) (scD x)) s') : wpAny (model X.prog X.w) X.A (contains (.ref p) u) Q E s := by
  obtain ⟨ob, es, ep, hob, hdd, hsz, hsm, hent⟩ := dk_entries I hd
  have hv : s.heap.get? p = some (DSub.viewOb "dict_values" a) := (show ObjOk X.prog X.w H s.heap p (viewO "dict_values" p a) from I.hok p _ hp).1
  have hT : s.TypeIs (.ref p) "dict_values" := ⟨_, hv, rfl⟩
  have ha : a < s.heap.objs.size := Heap.lt_size hob
  unfold contains
  refine wpAny_holding ?_
  rw [stdlibNamesSay?_of_typeIs hT]
  refine wpAny_bind (wpAny_specialOf hT nocontains ?_)
  show wpAny _ _ (if (none == some Value.none) = true then _ else _) _ _ s
  rw [if_neg (by decide)]
  refine wpAny_bind ?_
  unfold callSpecialUnlessNone?
  refine wpAny_bind (wpAny_specialOf hT nocontains ?_)
  refine wpAny_pure ?_
  refine wpAny_bind (wpAny_rule ?_)
  refine wpAny_bind (wpAny_tryCatch (DSub.iter_vals hv hob hdd ?_))
  have hP : ∀ (i : Nat) (e : DictEntry), es[i]? = some e → ∃ di, ((kvs.map (·.2)).map scD)[i]? = some di ∧ ∀ h, Reads h e.val di [] := fun i e he => by
    have hi : i < es.size := by
      rcases Nat.lt_or_ge i es.size with z | z
      · exact z
      · rw [Array.getElem?_eq_none z] at he
        cases he
    have hi2 : i < kvs.length := by omega
    obtain ⟨e', he', r'⟩ := hent i kvs[i].1 kvs[i].2 (List.getElem?_eq_getElem hi2)
    have e1 : e' = e := Option.some.inj (he'.symm.trans he)
    subst e1
    refine ⟨scD kvs[i].2, ?_, fun h => scv_reads (hs _ (List.getElem_mem hi2)) r' h⟩
    rw [List.getElem?_map, List.getElem?_map, List.getElem?_eq_getElem hi2]
    rfl
  refine wpAny_bind (wpAny_runValue (codeAny_ci (I := s.heap.objs.size) (fp := [s.heap.objs.size, a]) (wr := [s.heap.objs.size]) (n := es.size) (DSub.walksVal (a := a) (P := fun i v => ∃ di, ((kvs.map (·.2)).map scD)[i]? = some di ∧ ∀ h, Reads h v di []) (show X.A.in1.handled = none from I.ok.hd hc) (Nat.ne_of_lt ha) hdd hP) ((kvs.map (·.2)).map scD) (scD x) u (by rw [List.length_map, List.length_map, hsz]) (fun i v z => z) (fun z hz => by
    obtain ⟨v, hv', rfl⟩ := List.mem_map.mp hz
    obtain ⟨q, hq, rfl⟩ := List.mem_map.mp hv'
    exact scv_lay (hs q hq)) (fun h => scv_reads sx r h) (scv_lay sx).1 (by omega) _ 0 _ rfl (Nat.zero_le _) ⟨Heap.get?_push_size _ rfl, Heap.get?_push_of_some _ hob⟩ fun h' tk hk => ?_))
  refine wpAny_pure ?_
  have hk2 : ∀ b o, s.heap.get? b = some o → h'.get? b = some o := fun b o e => hk b o (fun z => by rw [List.mem_singleton.mp z] at e; exact absurd (Heap.lt_size e) (Nat.lt_irrefl _)) (Heap.get?_push_of_some _ e)
  have := h _ (I.kept (t' := tk) hk2)
  rw [List.drop_zero, List.any_map]
  exact this
theorem op_inV (hu : X.A.units + 64 < cLine) (hc : X.calm = true := by rfl) : OpR X (compareOp .In) rInV := by
  intro pins s σ H x y v u Q I rx ry h
  obtain ⟨p, a, kvs, rfl, sx, hp, hd, hs, q⟩ := h
  obtain rfl : u = Value.ref p := ry
  show wpAny _ _ (contains (.ref p) v >>= _) _ _ s
  exact wpAny_bind (in_view hc hu I rx sx hp hd hs fun s' I' => wpAny_pure ⟨.bl _, H, I', rfl, q⟩)
end
end SG
/-! sorted(xs, key=lambda x: ..) -/
namespace SG
open PySem PySem.Spec PyProof.Rows L2 LamX
section
variable {β : Type}
/-- the lambda's body: of a value that holds R, the key; all kept -/
def KeyB (prog : Program) (w : World) (scope : Scope) (body : Expr) (x : Str) (key : β → PyData) (R : Heap → Value → β → Prop) : Prop :=
  ∀ (cenv : Env) (A' : Around) (E' : Value → Shared → Prop) (v : Value) (b : β) (s : Shared) (m : Str → Option Value), cenv.scope = scope → R s.heap v b → s.heap.Ns cenv.locals m → m x = some v →
    wpAny (model prog w) A' (eval body cenv) (fun y s' => PySem.W.KeyPure (key b) s y s') E' s
def sKey (key : β → PyData) (xs : List V) (ps : List β) : List V := ((xs.zip ps).mergeSort (PySem.W.dataLe false fun p : V × β => key p.2)).map (·.1)
def tSortLam (K : PySem.W.Frag) (T : List (Addr × Str)) (key : β → PyData) (RV : Hp → V → β → Prop) (te : TE) : TE := fun σ H Q => te σ H fun v H1 => Tabs T H1 ∧ ∃ (a : Addr) (xs : List V) (ps : List β), v = .ref a ∧ SqL K H1 a xs ∧ xs.length = ps.length ∧ (∀ p ∈ xs.zip ps, RV H1 p.1 p.2) ∧
  PySem.W.AllAlike (ps.map key) ∧ PySem.W.Sortable (ps.map key) ∧ (∀ b ∈ ps, (key b).depth ≤ 8) ∧ ∀ H2 q, ExtN H1 H2 → Tabs T H2 → H2 q = none → Q (.ref q) (upd H2 q (.lst (sKey key xs ps)))
/-- a lambda's scope: one name of its own, nothing free -/
structure LamP (scope : Scope) (x : Str) : Prop where
  kind : scope.kind = .function
  co : scope.isCoroutine = false
  gen : scope.isGenerator = false
  cell : ∀ y ∈ scope.names, y.2 ≠ .cell
  free : ∀ y ∈ scope.names, y.2 ≠ .free
  loc : scope.names.lookup x = some .local
theorem each_zip {R : Heap → Value → β → Prop} {h : Heap} : ∀ {xs : List V} {its : List Value} {ps : List β}, Vals xs its → xs.length = ps.length → (∀ (x : V) (u : Value) (b : β), (x, b) ∈ xs.zip ps → RelV x u → R h u b) → PySem.W.EachIs (fun (u : Value) (p : V × β) => RelV p.1 u ∧ R h u p.2) its (xs.zip ps)
  | _, _, [], .nil, _, _ => .nil
  | _, _, [], .cons _ _, e, _ => by simp at e
  | _, _, _ :: _, .nil, e, _ => by simp at e
  | _, _, b :: ps, .cons r t, e, k => .cons ⟨r, k _ _ _ List.mem_cons_self r⟩ (each_zip t (by simpa using e) fun x u b hm => k x u b (List.mem_cons_of_mem _ hm))
theorem vals_each {R : Value → β → Prop} : ∀ {out : List Value} {bs : List (V × β)}, PySem.W.EachIs (fun (u : Value) (p : V × β) => RelV p.1 u ∧ R u p.2) out bs → Vals (bs.map (·.1)) out
  | _, _, .nil => .nil
  | _, _, .cons h t => .cons h.1 (vals_each t)
theorem extN_seq {K : PySem.W.Frag} {H H' : Hp} {a : Addr} {xs : List V} (e : ExtN H H') (h : SqL K H a xs) : SqL K H' a xs := by
  rcases h with (h | ⟨o, h⟩) | h
  · exact .inl (.inl (e _ _ h fun ps z => by cases z))
  · exact .inl (.inr ⟨o, e _ _ h fun ps z => by cases z⟩)
  · exact .inr h
variable {X : Cx}
theorem pe_sortLam {T : List (Addr × Str)} {c P : Addr} {x : Str} {e body : Expr} {te : TE} {params : Arguments} {scope : Scope} {p lpos kpos pos : Pos} {key : β → PyData} {R : Heap → Value → β → Prop} {RV : Hp → V → β → Prop}
    (hg : Gl X "sorted") (hm : X.mg "sorted" = none) (he : PE X e te) (TB : TabB X.base X.mg c P) (hcode : X.env.code = .ref c) (hmT : (P, X.env.qual ++ "<lambda>") ∈ T) (hu : ∀ p ∈ T, p.1 = P → p.2 = X.env.qual ++ "<lambda>") (hr : Room 3 X.A) (L : LamP scope x)
    (hdef : defaultsOf params X.env = ([], [])) (hbind : ∀ (q : Str) (cl : List (Str × Addr)) (pm cv ctv v : Value), bindArgs (PySem.W.kla_fn "<lambda>" q params body scope cl pm cv ctv) ⟨[v], []⟩ = pure [(x, v)])
    (KB : KeyB X.prog X.w scope body x key R) (hRm : ∀ {h h' : Heap} {v : Value} {b : β}, (∀ a o, h.get? a = some o → h'.get? a = some o) → R h v b → R h' v b)
    (hRV : ∀ {pins : List (Addr × Obj)} {s : Shared} {σ : L2.St} {H : Hp} {v : V} {u : Value} {b : β}, Inv X pins σ H s → RelV v u → RV H v b → R s.heap u b) (hRE : ∀ {H H' : Hp} {v : V} {b : β}, ExtN H H' → RV H v b → RV H' v b)
    (hs : starEach [e] X.env = (false, eval e X.env) :: starEach [] X.env := by rfl) :
    PE X (.Call (.Name "sorted" p) [e] [⟨some "key", .Lambda params body scope lpos, kpos⟩] pos) (tSortLam X.K T key RV te) := by
  refine ⟨fun pins s σ H Q I h => ?_⟩
  refine wpAny_Call_Name_kw (ld_blt I hg hm boot_sorted ?_ (by decide) (by decide))
  refine PyProof.Rows.callWith_kw ?_ (by rw [hs]; rfl) (by rw [hs]; rfl) (by rfl) (by rfl)
  rw [hs]
  show wpAny _ _ (spliced ((false, eval e X.env) :: backTo pos (starEach [] X.env))) _ _ s
  refine Calls.spliced_cons (thn (he.run pins s σ H _ I h) fun u s1 ⟨v, H1, I1, r1, hT, a, xs, ps, ev, hq, hlen, hRVs, hal, hso, hdep, q⟩ => ?_)
  refine Calls.spliced_nil ?_
  subst ev
  obtain rfl : u = Value.ref a := r1
  show wpAny _ _ (evalAll ((do let v ← eval (.Lambda params body scope lpos) X.env; standAt pos; pure v) :: [])) _ _ s1
  refine wpAny_evalAll_cons (wpAny_bind (lam_make2 I1 TB hcode hmT hu hT hdef (fun y hy e => absurd e (L.free y hy)) fun f c' pm ctv H2 s2 I2 eN T2 hf hfn hfr hco => wpAny_bind (wpAny_standAt (wpAny_pure ?_))))
  refine wpAny_evalAll_nil ?_
  show wpAny _ _ (call (.builtin "sorted") [.ref a] [(Str.ofString "key", .ref f)]) _ _ s2
  have hq2 := extN_seq eN hq
  obtain ⟨its, rv, hl, hz⟩ := I2.list hq2
  have hE := each_zip (R := R) (h := s2.heap) rv hlen fun y u b hm ru => hRV I2 ru (hRE eN (hRVs _ hm))
  have hmap : (xs.zip ps).map (fun p : V × β => key p.2) = ps.map key := by
    have h1 : (xs.zip ps).map Prod.snd = ps := List.map_snd_zip (by omega)
    show (xs.zip ps).map (key ∘ Prod.snd) = _
    rw [← List.map_map, h1]
  have hun := hr.un
  refine PySem.W.sorted_key_data (b := false) (fun p : V × β => key p.2) hl.isList hE (by rw [hmap]; exact hal) (by rw [hmap]; exact hso) (by rw [← hE.length, ← rv.length]; exact hz) (fun p hp => ?_) (ksk_s1 _ _) (fun _ => ksk_l1 _ _) (fun _ => ksk_t1 _ _) (fun v p hR hp h tk kp => ?_) fun out n h' tk kp fresh hD hlen' eo => ?_
  · have := hdep p.2 (List.of_mem_zip hp).2
    omega
  · have hdp := hr.dp
    have hCR : h.CodeRec (.ref c') (X.env.qual ++ "<lambda>") := by
      obtain ⟨⟨oc, vs, t, e1, e2, e3⟩, _⟩ := (show ObjOk X.prog X.w H2 s2.heap c' (CodeO c' (X.env.qual ++ "<lambda>")) from I2.hok c' _ hco)
      exact ⟨c', oc, vs, t, rfl, kp _ _ e1, e2, e3⟩
    refine wpAny_call (codeAny_mono (R := fun r s' => ∃ u, r = .ok (.ret u) ∧ PySem.W.KeyPure (key p.2) { s2 with heap := h, toks := tk } u s') ?_ fun r s' hq' => ?_)
    · refine PySem.W.kla_callFunE (show X.A.in1.in1.depth < recursionLimit from by show X.A.depth < recursionLimit; omega) (kp _ _ hf) rfl L.co L.gen rfl hCR ?_
      rw [hbind]
      refine wpAny_pure (wpAny_newFunctionEnv L.cell (fun y hy => by rw [List.mem_singleton.mp hy]; exact L.loc) (fun h₁ hns hsb => ⟨((I2.nolimit).keeps kp).fresh _ hsb, ?_⟩) L.kind)
      have hk1 : ∀ b o, h.get? b = some o → h₁.get? b = some o := fun b o e => hsb.extBut b o (Nat.ne_of_lt (Heap.lt_size e)) (Heap.get?_push_of_some _ e)
      refine PySem.W.kla_codeExpr (wpAny_mono (KB _ _ _ v p.2 _ _ rfl (hRm (fun a o e => hk1 a o (kp a o e)) hR.2) hns ?_) (fun u s' hk => ?_) fun _ _ z => z)
      · simp [List.lookup]
      · obtain ⟨h3, tk3, e3, k3, r3⟩ := hk
        exact ⟨u, rfl, h3, tk3, e3, fun b o e => k3 b o (hk1 b o e), r3⟩
    · obtain ⟨u, rfl, hk⟩ := hq'
      exact hk
  · have hout := vals_each (R := fun u b => R s2.heap u b) eo
    have hl2 : (sKey key xs ps).length ≤ sizeLine := by
      unfold sKey
      rw [List.length_map, (List.mergeSort_perm _ _).length_eq, ← hE.length, ← rv.length]
      exact hz
    exact ⟨.ref _, upd H2 (s2.heap.objs.size + 1) (.lst (sKey key xs ps)), I2.laid (t' := tk) kp (Nat.le_succ _) ⟨hl2, out, n, hout, hD⟩, rfl, q H2 _ eN T2 (I2.hok.fresh (Nat.le_succ _))⟩
end
end SG
namespace SG
open PySem PySem.Spec PyProof.Rows L2 LamX
section
variable {β : Type}
/-- a tuple whose first item is a text -/
def R0 (kx : β → Str) (h : Heap) (v : Value) (b : β) : Prop := ∃ (t : Addr) (items : Array Value) (tk : Tok), v = .ref t ∧ IsTup h t items ∧ items[0]? = some (.str (kx b) tk)
def RV0 (kx : β → Str) (H : Hp) (v : V) (b : β) : Prop := ∃ (t : Addr) (r : List V), v = .ref t ∧ H t = some (.tup (.str (kx b) :: r))
theorem keyB_at0 {prog : Program} {w : World} {scope : Scope} {x : Str} {kx : β → Str} {p1 p2 p3 : Pos} {j : Nat} (hk : scope.kind = .function) (hl : scope.names.lookup x = some .local) (hd : (x == ("__debug__" : Str)) = false) :
    KeyB prog w scope (.Subscript (.Name x p1) (.Constant (.int 0) j p2) p3) x (fun b => PyData.str (kx b)) (R0 kx) := by
  intro cenv A' E' v b s m hsc hR hn hm
  obtain ⟨t, items, tk, rfl, ht, h0⟩ := hR
  subst hsc
  refine Subscript_Constant (wpAny_Name (wpAny_loadName_local hk hl hn hm ?_) hd)
  refine wpAny_Constant_int ?_
  refine ⟨"tuple", _, slot_tuple_getitem.lookup, ht.typeIs, getItem_tuple (j := 0) ht (by decide) (by decide) ?_ h0 ?_⟩
  · have hp : 0 < items.size := (Array.getElem?_eq_some_iff.mp h0).1
    unfold seqIndex?
    simp [hp]
  · exact ⟨s.heap, _, rfl, fun _ _ e => e, .str _ _⟩
theorem r0_keeps {kx : β → Str} {h h' : Heap} {v : Value} {b : β} (k : ∀ a o, h.get? a = some o → h'.get? a = some o) (r : R0 kx h v b) : R0 kx h' v b := by
  obtain ⟨t, items, tk, e, ht, h0⟩ := r
  exact ⟨t, items, tk, e, ht.keeps k, h0⟩
theorem r0_of {X : Cx} {kx : β → Str} {pins : List (Addr × Obj)} {s : Shared} {σ : L2.St} {H : Hp} {v : V} {u : Value} {b : β} (I : Inv X pins σ H s) (r : RelV v u) (h : RV0 kx H v b) : R0 kx s.heap u b := by
  obtain ⟨t, rest, rfl, ht⟩ := h
  obtain rfl : u = Value.ref t := r
  obtain ⟨its, rv, pl, _⟩ := I.tuple (SqT.of (K := X.K) ht)
  cases rv with
  | cons r1 rs =>
    obtain ⟨tk, rfl⟩ := r1
    exact ⟨t, _, tk, rfl, pl, by simp⟩
theorem rv0_ext {kx : β → Str} {H H' : Hp} {v : V} {b : β} (e : ExtN H H') (h : RV0 kx H v b) : RV0 kx H' v b := by
  obtain ⟨t, rest, rfl, ht⟩ := h
  exact ⟨t, rest, rfl, e _ _ ht fun ps z => by cases z⟩
end
end SG
/-! max(xs, default=0) of a list of ints -/
namespace SG
open PySem PySem.Spec PyProof.Rows L2 LamX
theorem args_maxDef (a d : Value) : argsOk "max" ⟨[a], [(Str.ofString "default", d)]⟩ := by unfold argsOk; kernel_rfl
section
variable {P : Program} {w : World} {A : Around} {I : Addr} {fp wr : List Addr} {n : Nat} {F : Nat → Value → Prop} {St : Nat → Heap → Prop} {R : Result → Shared → Prop}
/-- one turn after the first, and the end -/
theorem maxDef_loop (W : Walks P w A.in1 I fp wr n F St) (bt : Nat → Nat → Bool) (hc : CmpOf P w A.in1 .Gt F bt) (B : Addr) (hB : B ∉ fp) (kw : List (Str × Value)) :
    ∀ (k j : Nat) (s : Shared) (v0 : Value) (c : Nat), n - (j + 1) = k → j + 1 ≤ n → St (j + 1) s.heap → F (argBest bt j) v0 →
    s.heap.get? B = some { cls := .type "list", dict := none, data := .seq #[v0, v0] c, slots := #[] } →
    (∀ v h' tk, F (argBest bt (n - 1)) v → (∀ b o, b ∉ wr → b ≠ B → s.heap.get? b = some o → h'.get? b = some o) → R (.ok (.ret v)) { s with heap := h', toks := tk }) →
    codeAny (model P w) A (.builtin "max.loop" ⟨[.ref I, .none, .ref B], kw⟩) R s := by
  have hBw : B ∉ wr := fun h => hB (W.sub _ h)
  have enm : (toString "max" ++ toString ".loop" : String) = "max.loop" := by decide
  intro k
  induction k with
  | zero =>
    intro j s v0 c hk hj st f0 hb q
    have hn : j + 1 = n := by omega
    refine codeAny_builtin PySem.F.entry_max_loop ?_
    rw [Around.under_plainId PySem.F.plain_max_loop _]
    show wpAny _ _ (seqItems? (.ref B) >>= _) _ _ _
    refine wpAny_bind (wpAny_seqItems hb rfl ?_)
    show wpAny _ _ (tryCatch (pyNext (.ref I)) _ >>= _) _ _ _
    refine wpAny_bind (wpAny_tryCatch (W.done s _ _ (hn ▸ st) fun h' tk kp => ?_))
    have hb' := kp B _ hBw hb
    show wpAny _ _ (updateSeq B (fun _ => #[]) >>= _) _ _ _
    refine wpAny_bind ?_
    refine wpAny_updateSeq hb' rfl (wpAny_bind (wpAny_letGo (wpAny_pure ?_)))
    refine q v0 _ tk (by rw [← hn]; exact f0) fun b o h1 h2 e => (Heap.get?_update_other _ _ (Ne.symm h2)).trans (kp b o h1 e)
  | succ k ih =>
    intro j s v0 c hk hj st f0 hb q
    have hn : j + 1 < n := by omega
    refine codeAny_builtin PySem.F.entry_max_loop ?_
    rw [Around.under_plainId PySem.F.plain_max_loop _]
    show wpAny _ _ (seqItems? (.ref B) >>= _) _ _ _
    refine wpAny_bind (wpAny_seqItems hb rfl ?_)
    show wpAny _ _ (tryCatch (pyNext (.ref I)) _ >>= _) _ _ _
    refine wpAny_bind (wpAny_tryCatch (W.item (j + 1) s _ _ hn st fun v h' tk fv st' kp => ?_))
    have hb' := kp B _ hBw hb
    show wpAny _ _ (tryCatch (holding [v, v] (richCompare .Gt v v0 >>= _)) _ >>= _) _ _ _
    refine wpAny_bind (wpAny_tryCatch (wpAny_holding (wpAny_bind (hc (j + 1) (argBest bt j) v v0 _ _ _ fv f0 ?_))))
    refine wpAny_bind (wpAny_holding (wpAny_truthy_bool ?_))
    refine wpAny_bind (wpAny_letGo (wpAny_pure ?_))
    cases eb : bt (j + 1) (argBest bt j) with
    | true =>
      simp only [if_true]
      refine wpAny_bind ?_
      refine wpAny_updateSeq hb' rfl (wpAny_bind (wpAny_letGo ?_))
      rw [enm]
      refine wpAny_pure ⟨plainId_quiet PySem.F.plain_max_loop _, ih (j + 1) _ v _ (by omega) hn (W.frame _ _ _ st' fun b hbf o e => ?_) ?_ (Heap.get?_update_self _ hb' rfl) fun v' h2 tk2 f2 kp2 => ?_⟩
      · exact (Heap.get?_update_other _ _ (fun h : B = b => hB (by rw [h]; exact hbf))).trans e
      · simp only [argBest, eb, if_true]; exact fv
      · exact q v' h2 tk2 f2 fun b o h1 h3 e => kp2 b o h1 h3 ((Heap.get?_update_other _ _ (Ne.symm h3)).trans (kp b o h1 e))
    | false =>
      simp only [Bool.false_eq_true, if_false]
      refine wpAny_bind (wpAny_letGo ?_)
      rw [enm]
      refine wpAny_pure ⟨plainId_quiet PySem.F.plain_max_loop _, ih (j + 1) _ v0 c (by omega) hn st' ?_ hb' fun v' h2 tk2 f2 kp2 => ?_⟩
      · simp only [argBest, eb, Bool.false_eq_true, if_false]; exact f0
      · exact q v' h2 tk2 f2 fun b o h1 h3 e => kp2 b o h1 h3 (kp b o h1 e)
/-- the first turn, where there is one -/
theorem maxDef_first (W : Walks P w A.in1 I fp wr n F St) (bt : Nat → Nat → Bool) (hc : CmpOf P w A.in1 .Gt F bt) (B : Addr) (hB : B ∉ fp) (kw : List (Str × Value)) (hn : 0 < n) {s : Shared} {c : Nat} (st : St 0 s.heap)
    (hb : s.heap.get? B = some { cls := .type "list", dict := none, data := .seq #[] c, slots := #[] })
    (q : ∀ v h' tk, F (argBest bt (n - 1)) v → (∀ b o, b ∉ wr → b ≠ B → s.heap.get? b = some o → h'.get? b = some o) → R (.ok (.ret v)) { s with heap := h', toks := tk }) :
    codeAny (model P w) A (.builtin "max.loop" ⟨[.ref I, .none, .ref B], kw⟩) R s := by
  have hBw : B ∉ wr := fun h => hB (W.sub _ h)
  have enm : (toString "max" ++ toString ".loop" : String) = "max.loop" := by decide
  refine codeAny_builtin PySem.F.entry_max_loop ?_
  rw [Around.under_plainId PySem.F.plain_max_loop _]
  show wpAny _ _ (seqItems? (.ref B) >>= _) _ _ _
  refine wpAny_bind (wpAny_seqItems hb rfl ?_)
  show wpAny _ _ (tryCatch (pyNext (.ref I)) _ >>= _) _ _ _
  refine wpAny_bind (wpAny_tryCatch (W.item 0 s _ _ hn st fun v h' tk fv st' kp => ?_))
  have hb' := kp B _ hBw hb
  show wpAny _ _ (updateSeq B (fun _ => #[v, v]) >>= _) _ _ _
  refine wpAny_bind ?_
  refine wpAny_updateSeq hb' rfl ?_
  rw [enm]
  refine wpAny_pure ⟨plainId_quiet PySem.F.plain_max_loop _, maxDef_loop W bt hc B hB kw _ 0 _ v _ rfl hn (W.frame _ _ _ st' fun b hbf o e => ?_) fv (Heap.get?_update_self _ hb' rfl) fun v' h2 tk2 f2 kp2 => ?_⟩
  · exact (Heap.get?_update_other _ _ (fun h : B = b => hB (by rw [h]; exact hbf))).trans e
  · exact q v' h2 tk2 f2 fun b o h1 h3 e => kp2 b o h1 h3 ((Heap.get?_update_other _ _ (Ne.symm h3)).trans (kp b o h1 e))
/-- no turn at all: the default -/
theorem maxDef_none (W : Walks P w A.in1 I fp wr 0 F St) (B : Addr) (hB : B ∉ fp) (x : Str) (d : Value) {s : Shared} {c : Nat} (st : St 0 s.heap)
    (hb : s.heap.get? B = some { cls := .type "list", dict := none, data := .seq #[] c, slots := #[] })
    (q : ∀ h' tk, (∀ b o, b ∉ wr → s.heap.get? b = some o → h'.get? b = some o) → R (.ok (.ret d)) { s with heap := h', toks := tk }) :
    codeAny (model P w) A (.builtin "max.loop" ⟨[.ref I, .none, .ref B], [(x, d)]⟩) R s := by
  refine codeAny_builtin PySem.F.entry_max_loop ?_
  rw [Around.under_plainId PySem.F.plain_max_loop _]
  show wpAny _ _ (seqItems? (.ref B) >>= _) _ _ _
  refine wpAny_bind (wpAny_seqItems hb rfl ?_)
  show wpAny _ _ (tryCatch (pyNext (.ref I)) _ >>= _) _ _ _
  refine wpAny_bind (wpAny_tryCatch (W.done s _ _ st fun h' tk kp => ?_))
  refine wpAny_bind (wpAny_rule ?_)
  exact wpAny_pure (q h' tk kp)
end
section
variable {P : Program} {w : World} {A : Around} {E : Value → Shared → Prop} {s : Shared} {l : Addr} {its : List Value} {ns : List Int} {Q : Value → Shared → Prop}
theorem maxDef_raw (hh : A.handled = none) (hl : s.heap.IsList l its.toArray) (hi : IntsAre its ns) (z : Int) (tz : Tok)
    (h : ∀ h' tk M t', (∀ b o, s.heap.get? b = some o → h'.get? b = some o) → ((ns = [] ∧ M = z) ∨ (M ∈ ns ∧ ∀ a, a ∈ ns → a ≤ M)) → Q (.int M t') { s with heap := h', toks := tk }) :
    wpAny (model P w) A (call (.builtin "max") [.ref l] [(Str.ofString "default", .int z tz)]) Q E s := by
  obtain ⟨xs, e⟩ := hi.allInts.items
  have hn : numsOf (intItems xs).toList = ns := by rw [← e]; exact hi.numsOf
  rw [nums_intItems] at hn
  subst hn
  rw [e] at hl
  have enm : (toString "max" ++ toString ".loop" : String) = "max.loop" := by decide
  refine kmk_tree PySem.F.kind_max PySem.F.plain_max PySem.F.entry_max (args_maxDef _ _) ?_
  show wpAny _ _ (Builtin.Builtins.bindParams "max" ["key", "default"] 0 ⟨[], [(Str.ofString "default", .int z tz)]⟩ >>= _) _ _ _
  refine wpAny_bind (wpAny_of_eq (show Builtin.Builtins.bindParams "max" ["key", "default"] 0 ⟨[], [(Str.ofString "default", .int z tz)]⟩ = pure [none, some (.int z tz)] from rfl) ?_)
  refine wpAny_bind (wpAny_pure ?_)
  refine wpAny_bind (iter_intList hl fun s2 e2 st hfp hlI => ?_)
  refine wpAny_bind (wpAny_newList ?_ (Nat.zero_le _))
  rw [enm]
  have hsz : (intItems xs).size = xs.size := by simp [intItems]
  have hB : s2.heap.objs.size ∉ [s.heap.objs.size, l] := fun hm => Nat.lt_irrefl _ (hfp _ hm)
  have W := Walks.list (prog := P) (w := w) (A := A.in1) hh s.heap.objs.size l hlI (intItems xs)
  have k0 : ∀ b o, s.heap.get? b = some o → s2.heap.get? b = some o := fun b o q => by rw [e2]; exact Heap.get?_push_of_some _ q
  have st2 := W.frame _ _ (s2.heap.push { cls := .type "list", data := .seq #[] }) st fun b _ o q => Heap.get?_push_of_some _ q
  have h0 : ∀ {h' : Heap}, (∀ b o, b ∉ [s.heap.objs.size] → b ≠ s2.heap.objs.size → (s2.heap.push { cls := .type "list", data := .seq #[] }).get? b = some o → h'.get? b = some o) → ∀ b o, s.heap.get? b = some o → h'.get? b = some o := fun {h'} kp b o q => by
    have hb := Heap.lt_size q
    have hb2 := Heap.lt_size (k0 b o q)
    exact kp b o (fun hm => Nat.ne_of_lt hb (List.mem_singleton.mp hm)) (Nat.ne_of_lt hb2) (Heap.get?_push_of_some _ (k0 b o q))
  have eg : ∀ (v : Heap) (t : Nat), { s2 with heap := v, toks := t } = { s with heap := v, toks := t } := fun v t => by rw [e2]
  refine wpAny_pure ⟨plainId_quiet PySem.F.plain_max_loop _, ?_⟩
  by_cases hz : xs.size = 0
  · rw [hsz, hz] at W
    refine maxDef_none W s2.heap.objs.size hB _ _ st2 (Heap.get?_push_size _ rfl) fun h' tk kp => ?_
    have hq := h h' tk z tz (h0 fun b o a _ c => kp b o a c) (.inl ⟨by
      have : xs = #[] := Array.eq_empty_of_size_eq_zero hz
      rw [this]; rfl, rfl⟩)
    show Q (.int z tz) { s2 with heap := h', toks := tk }
    rw [eg]
    exact hq
  · refine maxDef_first W _ (CmpOf.ints_gt (numAt xs) (fun _ _ => intItems_at)) s2.heap.objs.size hB _ (by rw [hsz]; omega) st2 (Heap.get?_push_size _ rfl) fun v h' tk hv kp => ?_
    rw [hsz] at hv
    obtain ⟨t, rfl⟩ := intItems_at hv
    obtain ⟨h1, h2⟩ := argBest_gt (numAt xs) (xs.size - 1)
    show Q _ { s2 with heap := h', toks := tk }
    rw [eg]
    refine h h' tk _ t (h0 kp) (.inr ⟨?_, fun a ha => ?_⟩)
    · rw [numAt_eq]; exact PySem.getD_mem (by rw [List.length_map, Array.length_toList]; omega)
    · obtain ⟨j, hj, rfl⟩ := mem_getD ha
      rw [List.length_map, Array.length_toList] at hj
      rw [← numAt_eq]; exact h2 j (by omega)
end
section
variable {X : Cx}
def tMaxDef (K : PySem.W.Frag) (z : Int) (te : TE) : TE := fun σ H Q => te σ H fun v H1 => ∃ (a : Addr) (ns : List Int), v = .ref a ∧ SqL K H1 a (ns.map V.int) ∧ ∀ m : Int, ((ns = [] ∧ m = z) ∨ (m ∈ ns ∧ ∀ y ∈ ns, y ≤ m)) → Q (.int m) H1
theorem boot_maxD : bootBuiltins "max" = some (.builtin "max") := by decide +kernel
theorem pe_maxDef {e : Expr} {te : TE} {z : Int} {k : Nat} {p p2 kpos pos : Pos} (hg : Gl X "max") (hm : X.mg "max" = none) (hc : X.calm = true) (he : PE X e te)
    (hs : starEach [e] X.env = (false, eval e X.env) :: starEach [] X.env := by rfl) :
    PE X (.Call (.Name "max" p) [e] [⟨some "default", .Constant (.int z) k p2, kpos⟩] pos) (tMaxDef X.K z te) := by
  refine ⟨fun pins s σ H Q I h => ?_⟩
  refine wpAny_Call_Name_kw (ld_blt I hg hm boot_maxD ?_ (by decide) (by decide))
  refine PyProof.Rows.callWith_kw ?_ (by rw [hs]; rfl) (by rw [hs]; rfl) (by rfl) (by rfl)
  rw [hs]
  show wpAny _ _ (spliced ((false, eval e X.env) :: backTo pos (starEach [] X.env))) _ _ s
  refine Calls.spliced_cons (thn (he.run pins s σ H _ I h) fun u s1 ⟨v, H1, I1, r1, a, ns, ev, hq, q⟩ => ?_)
  refine Calls.spliced_nil ?_
  subst ev
  obtain rfl : u = Value.ref a := r1
  show wpAny _ _ (evalAll ((do let v ← eval (.Constant (.int z) k p2) X.env; standAt pos; pure v) :: [])) _ _ s1
  refine wpAny_evalAll_cons (wpAny_bind (wpAny_Constant_int (wpAny_bind (wpAny_standAt (wpAny_pure ?_)))))
  refine wpAny_evalAll_nil ?_
  show wpAny _ _ (call (.builtin "max") [.ref a] [(Str.ofString "default", .int z _)]) _ _ _
  have I2 := I1.tok (s1.toks + 1)
  obtain ⟨its, rv, hl, _⟩ := I2.list hq
  refine maxDef_raw (I2.ok.hd hc) hl.isList rv.ints z _ fun h' tk M t' kp hM => ?_
  exact ⟨.int M, H1, I2.kept kp, ⟨_, rfl⟩, q M hM⟩
end
end SG
/-! xs.remove(x), texts -/
namespace SG
open PySem PySem.Spec PyProof.Rows L2
theorem findIdx_strs {xs : List Str} {x : Str} {j : Nat} (h : xs[j]? = some x) (hno : ∀ m, m < j → xs[m]? ≠ some x) : PySem.SeqAt.dataPlace (xs.map PyData.str) (.str x) = some j := by
  unfold PySem.SeqAt.dataPlace
  obtain ⟨hl, hx⟩ := List.getElem?_eq_some_iff.mp h
  rw [List.findIdx?_eq_some_iff_getElem]
  refine ⟨by rw [List.length_map]; exact hl, ?_, fun m hm => ?_⟩
  · rw [List.getElem_map, hx, enc_str]
    exact decide_eq_true rfl
  · rw [List.getElem_map, enc_str]
    have := hno m hm
    rw [List.getElem?_eq_getElem (by omega)] at this
    simp only [decide_eq_true_eq]
    exact fun e => this (by rw [e])
theorem eraseIdx_erase : ∀ {xs : List Str} {x : Str} {j : Nat}, xs[j]? = some x → (∀ m, m < j → xs[m]? ≠ some x) → xs.eraseIdx j = xs.erase x
  | [], _, _, h, _ => by simp at h
  | y :: r, x, 0, h, _ => by
    have e : y = x := Option.some.inj h
    rw [e, List.erase_cons_head]
    rfl
  | y :: r, x, j + 1, h, hno => by
    have e : y ≠ x := fun e => hno 0 (by omega) (by rw [e]; rfl)
    rw [List.erase_cons_tail (by simpa using e)]
    show y :: r.eraseIdx j = y :: r.erase x
    rw [eraseIdx_erase (xs := r) h fun m hm => hno (m + 1) (by omega)]
theorem map_eraseIdx {α β : Type} (f : α → β) : ∀ (l : List α) (j : Nat), (l.map f).eraseIdx j = (l.eraseIdx j).map f
  | [], _ => rfl
  | x :: l, 0 => rfl
  | x :: l, j + 1 => by
    show f x :: (l.map f).eraseIdx j = f x :: (l.eraseIdx j).map f
    rw [map_eraseIdx f l j]
theorem first_at {xs : List Str} {x : Str} (h : x ∈ xs) : ∃ j : Nat, xs[j]? = some x ∧ ∀ m : Nat, m < j → xs[m]? ≠ some x := by
  refine ⟨xs.idxOf x, ?_, fun m hm e => ?_⟩
  · have hl := List.idxOf_lt_length_of_mem h
    rw [List.getElem?_eq_getElem hl, List.getElem_idxOf hl]
  · obtain ⟨h1, h2⟩ := List.getElem?_eq_some_iff.mp e
    have := List.not_of_lt_findIdx (show m < xs.findIdx (· == x) from hm)
    simp [h2] at this
variable {X : Cx}
def rRemS : V → List V → Hp → VK → Prop := fun x xs H Q => ∃ (l : Addr) (ns : List Str) (k : Str), x = .ref l ∧ xs = [.str k] ∧ H l = some (.lst (ns.map V.str)) ∧ k ∈ ns ∧ Q .non (upd H l (.lst ((ns.erase k).map V.str)))
theorem mt_removeS (hu : X.A.units + 64 < cLine) : MtR X "list.remove" rRemS := by
  intro pins s σ H x xs v us Q I rx rxs h
  obtain ⟨l, ns, k, rfl, rfl, hH, hk, q⟩ := h
  cases rx
  obtain ⟨u, rfl, ru⟩ := rxs.one
  obtain ⟨t, rfl⟩ := ru
  obtain ⟨z, its, n, r, hl, e⟩ := I.lstM hH
  obtain ⟨j, hj, hno⟩ := first_at hk
  obtain ⟨as, r1⟩ := Dp.reads I (.list (ns.map PyData.str)) (.ref l) (.ref l) (.lst (SqL.of hH) (dpAll_strs ns)) rfl
  have hp := dp_plain _ _ (show Dp X.K H (.ref l) (.list (ns.map PyData.str)) from .lst (SqL.of hH) (dpAll_strs ns))
  rw [PyData.plain] at hp
  cases r1 with
  | list h1 h2 h3 h4 =>
    rw [e] at h1
    cases h1
    cases h3
    refine PySem.SeqAt.remove_list_data (j := j) ⟨_, e, rfl, _, rfl⟩ h4 (.str k t) hp (by rw [PyData.plain]) ?_ (findIdx_strs hj hno) ?_ ?_
    · have : (PyData.str k).depth = 0 := by rw [PyData.depth]
      rw [this, Nat.min_zero]
      omega
    · rw [List.size_toArray, ← r.length]
      exact z
    · have rr := r.eraseIdx j
      rw [map_eraseIdx, eraseIdx_erase hj hno] at rr
      refine ⟨.non, _, I.lset (its' := its.eraseIdx j) (t' := s.toks) hH e ?_ rr ?_, rfl, q⟩
      · show its.toArray.eraseIdxIfInBounds j = (its.eraseIdx j).toArray
        rw [List.eraseIdxIfInBounds_toArray]
      · rw [List.length_map] at z ⊢
        exact Nat.le_trans List.length_erase_le z
end SG
/-! sorted(d.keys()), d of texts -/
namespace SG
open PySem PySem.Spec PyProof.Rows L2
section
variable {X : Cx}
def tSortedKeys (ta : TE) : TE := fun σ H Q => ta σ H fun x H1 => ∃ (a : Addr) (kvs : List (Key × V)) (ks : List Str), x = .ref a ∧ H1 a = some (.dK kvs) ∧ kvs.map (·.1) = ks.map Sum.inr ∧ ks.length < 64 ∧
    ∀ ys p, ys.Perm ks → sortedS ys = true → H1 p = none → Q (.ref p) (upd H1 p (.lst (ys.map V.str)))
theorem pe_sortedKeys {a : Expr} {ta : TE} {p apos q pos : Pos} (hg : Gl X "sorted") (hm : X.mg "sorted" = none) (ha : PE X a ta) (hc : X.calm = true := by rfl)
    (hbase : attributeBase a "keys" X.env (eval a X.env) = eval a X.env := by rfl) (hline : (apos.endLine == q.line) = true := by rfl) : PE X (.Call (.Name "sorted" p) [.Call (.Attribute a "keys" apos) [] [] q] [] pos) (tSortedKeys ta) := by
  refine ⟨fun pins s σ H Q I h => ?_⟩
  refine Call_ (ld_blt I hg hm boot_sorted ?_)
  refine PyProof.Rows.callWith_builtin1 (PyProof.Rows.args_cons ?_ rfl) rfl rfl
  refine wpAny_Call_method (T := "dict") (id := "dict.keys") hbase rfl hline F.plainAttrs_dict F.slot_dict_keys F.type_dict_keys (thn (ha.run pins s σ H _ I h) fun u s1 ⟨x, H1, I1, rx, d, kvs, ks, ex, hd, hks, h64, k⟩ => ?_)
  subst ex
  obtain rfl : u = Value.ref d := rx
  obtain ⟨z, lo, vs, rel, dd⟩ := dk_of I1.hok hd
  refine ⟨dd.typeIs, dd.mapOf.noDict, ?_⟩
  have I2 : Inv X pins σ H1 { s1 with heap := s1.heap.push { cls := .type "dict_keys", data := .fields #[.ref d] } } := I1.kept (t' := s1.toks) fun b ob q => Heap.get?_push_of_some _ q
  have hview : (s1.heap.push { cls := .type "dict_keys", data := .fields #[.ref d] }).get? s1.heap.objs.size = some { cls := .type "dict_keys", data := .fields #[.ref d] } := Heap.get?_push_size _ rfl
  show wpAny _ _ (callWith _ (.builtin "dict.keys") [.ref d] [] []) _ X.xe s1
  refine method_meetsIn F.slot_dict_keys F.entry_dict_keys rfl (PySem.evalArgs_none ⟨rfl, dd.typeIs, F.args_dict_keys_1 _, _, PySem.W.kdl_meets_keys (mixKind X.prog X.w) d lo, ⟨vs, dd⟩, ?_⟩)
  refine PyProof.Rows.args_nil ?_
  generalize hs2 : ({ s1 with heap := s1.heap.push { cls := .type "dict_keys", data := .fields #[.ref d] } } : Shared) = s2 at I2 ⊢
  have hview2 : s2.heap.get? s1.heap.objs.size = some { cls := .type "dict_keys", data := .fields #[.ref d] } := by rw [← hs2]; exact hview
  clear rel dd
  obtain ⟨z, lo, vs, rel, dd⟩ := dk_of I2.hok hd
  obtain ⟨ep, hat⟩ := dd.dictAt
  have hkeys : vs.map (·.1) = ks.map Sum.inr := rel.keys.symm.trans hks
  have hl : vs.length = ks.length := by
    have e := congrArg List.length hkeys
    rw [List.length_map, List.length_map] at e
    exact e
  have h16 : vs.length ≤ sizeLine := by rw [hl, sizeLine_eq]; omega
  refine Calls.call_function_entry PyProof.Rows.kind_sorted PyProof.Rows.plain_sorted PyProof.Rows.entry_sorted (PyProof.Rows.args_sorted1 _) ?_
  unfold Builtin.«sorted»
  refine wpAny_bind (m := checkCount "sorted" 1 1 _) (wpAny_pure ?_)
  refine wpAny_bind (PySem.W.kdu_collect (A := X.A.in1) (PySem.W.kdl_keys (knd := mixKind X.prog X.w) (kvs := vs) (ep := ep)) (I2.ok.hd hc) ⟨⟨_, hview2, rfl, rfl⟩, hat⟩ h16 fun h' tk acc hk hacc => ?_)
  have hal : acc.toList.length = ks.length := by rw [Array.length_toList, hacc.1, hl]
  have hS : StrsAre acc.toList ks := strs_at hal fun j v e => by
    obtain ⟨k, x, e1, e2⟩ := hacc.2 j v (by rw [← Array.getElem?_toList]; exact e)
    have e3 : (vs.map (·.1))[j]? = some k := by rw [List.getElem?_map, e1]; all_goals rfl
    rw [hkeys, List.getElem?_map] at e3
    cases e4 : ks[j]? with
    | none => rw [e4] at e3; cases e3
    | some y =>
      rw [e4] at e3
      have e5 : Sum.inr y = k := Option.some.inj e3
      subst e5
      obtain ⟨t, ev⟩ := Value.isStrOf_shape (x := y) (v := v) e2
      exact ⟨y, t, rfl, ev⟩
  have I3 : Inv X pins σ H1 { s2 with heap := h', toks := tk } := I2.kept hk
  refine wpAny_bind (wpAny_newList ?_ (by rw [hal, sizeLine_eq]; omega))
  have hoL : (h'.push (seqObj "list" acc.toList.toArray 0)).get? h'.objs.size = some (seqObj "list" acc.toList.toArray 0) := Heap.get?_push_size _ rfl
  show wpAny _ _ _ _ _ { s2 with heap := h'.push (seqObj "list" acc.toList.toArray 0), toks := tk }
  refine wpAny_bind (wpAny_holding (wpAny_call_entry PyProof.Rows.slot_list_sort ⟨_, hoL, rfl⟩ PyProof.Rows.entry_list_sort
    (list_sort_treeK strKind_oneLt (s := { s2 with heap := h'.push (seqObj "list" acc.toList.toArray 0), toks := tk }) hoL hS.keysOf (fun v₁ v₂ rest e => keyKind_strs (by rw [← e]; exact hS)) (by rw [hal]; exact h64) fun st' hp hs => ⟨_, rfl, ?_⟩)
    (PyProof.Rows.args_list_sort _)))
  obtain ⟨ys, g1, g2, g3⟩ := sorted_out_str hS hp hs
  obtain ⟨e', he'⟩ := PyProof.Rows.sortedHeap_at (vs := acc.toList) (out := (arrOf st').map (·.2)) hoL
  have hlen : (ys.map V.str).length ≤ sizeLine := by
    rw [List.length_map, g2.length_eq]
    exact Nat.le_trans (Nat.le_of_lt h64) (by decide)
  refine wpAny_pure ⟨_, rfl, .ref h'.objs.size, upd H1 h'.objs.size (.lst (ys.map V.str)), I3.laid (t' := tk) (fun b u e => ?_) (Nat.le_refl _)
    (show ObjOk X.prog X.w _ _ _ (.lst (ys.map V.str)) from ⟨hlen, ((arrOf st').map (·.2)).toList, e', vals_of_strs g1, by rw [Array.toArray_toList]; exact he'⟩), rfl, k ys _ g2 g3 (I3.hok.fresh (Nat.le_refl _))⟩
  have hb : b < h'.objs.size := Heap.lt_size e
  rw [PyProof.Rows.sortedHeap_old (Nat.ne_of_lt hb) (by rw [size_push']; exact Nat.lt_succ_of_lt hb)]
  exact Heap.get?_push_of_some _ e
end

theorem risingS_pair : ∀ (r : List Str) (x : Str), risingS x r = true → (x :: r).Pairwise fun a b => decide (a.cps.toList ≤ b.cps.toList) = true
  | [], x, _ => by simp
  | y :: r, x, h => by
    rw [risingS, Bool.and_eq_true] at h
    have h2 := risingS_pair r y h.2
    have hxy : x.cps.toList ≤ y.cps.toList := by
      have h1 := h.1
      rw [PyProof.Rows.ltCps_eq] at h1
      simp only [Bool.not_eq_true', decide_eq_false_iff_not] at h1
      exact List.not_lt.mp h1
    rw [List.pairwise_cons]
    refine ⟨fun z hz => decide_eq_true ?_, h2⟩
    rcases List.mem_cons.mp hz with rfl | hz
    · exact hxy
    · exact List.le_trans hxy (of_decide_eq_true ((List.pairwise_cons.mp h2).1 z hz))
theorem sortedS_ssort {ys ks : List Str} (h : sortedS ys = true) (hp : ys.Perm ks) : ys = ssort ks := by
  have h1 : ys.Pairwise fun a b => decide (a.cps.toList ≤ b.cps.toList) = true := by
    cases ys with
    | nil => exact List.Pairwise.nil
    | cons x r => exact risingS_pair r x h
  exact (hp.trans (ssort_perm ks).symm).eq_of_pairwise (fun _ _ _ _ => sle_anti) h1 (ssort_pair ks)
theorem kvsW_keys (names : List Str) (w : Wt) : (kvsW names w).map (·.1) = names.map Sum.inr := by
  unfold kvsW
  rw [List.map_map]
  rfl

theorem iteNEG {b : Bool} {A B : Prop} (hb : b = false) (h : B) : if b = true then A else B := by rw [if_neg (by rw [hb]; exact Bool.false_ne_true)]; exact h
end SG
/-! the second kind of the laws' draws: a well of numbers -/
namespace SG
open PySem PySem.Spec PyProof.Rows L2
/-- the well at s, drawn from n times at most -/
def WellAt (H : Hp) (s : Addr) (n : Nat) : Prop := ∃ a b c : Int, H s = some (.lst [.int a, .int b, .int c]) ∧ 0 ≤ a ∧ 0 ≤ c ∧ c ≤ (n : Int)
variable {H H' H1 H2 : Hp} {s : Addr} {n m : Nat}
theorem WellAt.mono (h : WellAt H s n) (hm : n ≤ m) : WellAt H s m := by
  obtain ⟨a, b, c, h1, h2, h3, h4⟩ := h
  exact ⟨a, b, c, h1, h2, h3, by omega⟩
theorem WellAt.same (h : WellAt H s n) (e : Same H H') : WellAt H' s n := by
  obtain ⟨a, b, c, h1, r⟩ := h
  exact ⟨a, b, c, e _ _ h1, r⟩
theorem WellAt.some (h : WellAt H s n) : ∃ o, H s = some o := let ⟨_, _, _, h, _⟩ := h; ⟨_, h⟩
theorem WellAt.ne_strs {a : Addr} {ms : List Str} (h : WellAt H s n) (e : H a = Option.some (.lst (ms.map V.str))) : a ≠ s := fun q => by
  obtain ⟨_, _, _, h1, _⟩ := h
  rw [q, h1] at e
  cases ms with
  | nil => cases e
  | cons x r => cases e
theorem WellAt.ne_refs {a : Addr} {ts : List Addr} (h : WellAt H s n) (e : H a = Option.some (.lst (ts.map V.ref))) : a ≠ s := fun q => by
  obtain ⟨_, _, _, h1, _⟩ := h
  rw [q, h1] at e
  cases ts with
  | nil => cases e
  | cons x r => cases e
theorem WellAt.ne_dk {a : Addr} {kvs : List (Key × V)} (h : WellAt H s n) (e : H a = Option.some (.dK kvs)) : a ≠ s := fun q => by
  obtain ⟨_, _, _, h1, _⟩ := h
  rw [q, h1] at e
  cases e
theorem WellAt.ne_tup {a : Addr} {vs : List V} (h : WellAt H s n) (e : H a = Option.some (.tup vs)) : a ≠ s := fun q => by
  obtain ⟨_, _, _, h1, _⟩ := h
  rw [q, h1] at e
  cases e
theorem But.freeW (a : But s H H') (h : WellAt H' s n) {p : Addr} (hp : H' p = none) : H p = none := by
  cases e : H p with
  | none => rfl
  | some o =>
    by_cases n : p = s
    · obtain ⟨o', h⟩ := h.some
      rw [n, h] at hp
      cases hp
    · rw [a p o n e] at hp
      cases hp
theorem WellAt.cell {p : Addr} (h : WellAt H s n) {o : HO} (h0 : WellAt H1 s m) (hp : H1 p = Option.none) : WellAt (upd H p o) s n := by
  obtain ⟨a, b, c, g1, r⟩ := h
  obtain ⟨os, g2⟩ := h0.some
  exact ⟨a, b, c, by rw [upd_ne (ne_of_none g2 hp)]; exact g1, r⟩
def sp_draw : Sp := fun vs H Q _ => ∃ (s : Addr) (k : Int) (n : Nat), vs = [.ref s, .int k] ∧ WellAt H s n ∧ n ≤ 1000000000 ∧ 0 < k ∧ k < 1073741824 ∧ ∀ (j : Int) H', 0 ≤ j → j < k → But s H H' → WellAt H' s (n + 1) → Q (.int j) H'

def sp_cell_at (K : PySem.W.Frag) : Sp := fun vs H Q _ => ∃ (a : Addr) (ns : List Int) (k : Nat), vs = [.ref a, .int k] ∧ SqL K H a (ns.map V.int) ∧ ∀ z : Int, Q (.int z) H
def sp_well : Sp := fun vs H Q _ => ∃ c : Int, vs = [.int c] ∧ ∀ p H', H p = none → Same H H' → WellAt H' p 0 → Q (.ref p) H'
def sp_one : Sp := fun vs H Q _ => ∃ (s a : Addr) (xs : List V) (n : Nat), vs = [.ref s, .ref a] ∧ WellAt H s n ∧ n ≤ 1000000000 ∧ H a = some (.lst xs) ∧ a ≠ s ∧ 0 < xs.length ∧ xs.length ≤ 1000000 ∧ ∀ (v : V) H', v ∈ xs → But s H H' → WellAt H' s (n + 1) → Q v H'
/-- the i-th of the names with a common stem -/
def CalledB (stem : List Nat) (f : Int) (i : Nat) (x : Str) : Prop := x = ⟨(stem ++ [97 + ((f + 5 * (i : Int)) % 12).toNat]).toArray⟩
def NamesB (m : Nat) (xs : List Str) : Prop := xs.length = m ∧ ∃ stem f, stem.length ≤ 5 ∧ Smalls stem ∧ ∀ (i : Nat) x, xs[i]? = some x → CalledB stem f i x
def sp_namesB : Sp := fun vs H Q _ => ∃ (s : Addr) (m n : Nat), vs = [.ref s, .int m] ∧ m ≤ 12 ∧ WellAt H s n ∧ n ≤ 100000000 ∧ ∀ p H' (xs : List Str), H p = none → But s H H' → WellAt H' s (n + 10) → H' p = some (.lst (xs.map V.str)) → NamesB m xs → Q (.ref p) H'
/-- letters of one sign each, unlike -/
def SignB (f : Int) (i : Nat) (x : Str) : Prop := x = ⟨#[97 + ((f + 5 * (i : Int)) % 26).toNat]⟩
def SignsB (m : Nat) (xs : List Str) : Prop := xs.length = m ∧ ∃ f, ∀ (i : Nat) x, xs[i]? = some x → SignB f i x
def sp_signsB : Sp := fun vs H Q _ => ∃ (s : Addr) (m n : Nat), vs = [.ref s, .int m] ∧ m ≤ 26 ∧ WellAt H s n ∧ n ≤ 100000000 ∧ ∀ p H' (xs : List Str), H p = none → But s H H' → WellAt H' s (n + 1) → H' p = some (.lst (xs.map V.str)) → SignsB m xs → Q (.ref p) H'
def sp_mixed : Sp := fun vs H Q _ => ∃ (s a : Addr) (xs : List V) (n : Nat), vs = [.ref s, .ref a] ∧ WellAt H s n ∧ n ≤ 100000000 ∧ H a = some (.lst xs) ∧ a ≠ s ∧ xs.length ≤ 1000 ∧ ∀ p H' (ys : List V), H p = none → But s H H' → WellAt H' s (n + xs.length) → H' p = some (.lst ys) → ys.Perm xs → Q (.ref p) H'
theorem glued_back (y : Str) : ∀ xs : List Str, xs ≠ [] → (Str.join "" (xs ++ [y])).cps.toList = (Str.join "" xs).cps.toList ++ y.cps.toList
  | [], h => absurd rfl h
  | [x], _ => by
    show (x ++ ("" : Str) ++ y).cps.toList = _
    show (x.cps ++ ("" : Str).cps ++ y.cps).toList = x.cps.toList ++ y.cps.toList
    rw [show ("" : Str).cps = #[] from by decide +kernel]
    simp
  | x :: z :: r, _ => by
    have ih := glued_back y (z :: r) (by simp)
    show (x.cps ++ ("" : Str).cps ++ (Str.join "" ((z :: r) ++ [y])).cps).toList = (x.cps ++ ("" : Str).cps ++ (Str.join "" (z :: r)).cps).toList ++ y.cps.toList
    rw [Array.toList_append, ih]
    simp
theorem join_one_signs (ls : List Nat) : Str.join "" (ls.map fun c => (⟨#[c]⟩ : Str)) = ⟨ls.toArray⟩ := by
  refine list_snoc_ind (P := fun ls => Str.join "" (ls.map fun c => (⟨#[c]⟩ : Str)) = ⟨ls.toArray⟩) rfl (fun xs x ih => ?_) ls
  rw [List.map_append, List.map_singleton]
  by_cases c : xs = []
  · rw [c]; rfl
  · have h := glued_back (⟨#[x]⟩ : Str) (xs.map fun c => (⟨#[c]⟩ : Str)) (by simpa using c)
    rw [ih] at h
    refine PySem.W.str_of_cps ?_
    rw [h]
theorem abc12 : (("abcdefghijkl" : Str)).cps.toList = (List.range 12).map (97 + ·) := by decide +kernel
theorem letter12_at {i : Int} (h0 : 0 ≤ i) (h1 : i < 12) : atI (("abcdefghijkl" : Str)).cps.toList i = some (97 + i.toNat) := by
  rw [atI_eq h0 (by rw [abc12]; simpa using h1), abc12, List.getElem?_map, List.getElem?_range (by omega)]
  rfl
theorem CalledB.inj {stem : List Nat} {f : Int} {i j : Nat} {x : Str} (hi : i < 12) (hj : j < 12) (h : CalledB stem f i x) (h' : CalledB stem f j x) : i = j := by
  unfold CalledB at h h'
  rw [h] at h'
  have e2 : stem ++ [97 + ((f + 5 * (i : Int)) % 12).toNat] = stem ++ [97 + ((f + 5 * (j : Int)) % 12).toNat] := by
    have := congrArg (fun z : Str => z.cps.toList) h'
    simpa using this
  have e4 := List.append_cancel_left e2
  simp at e4
  omega
theorem NamesB.nd {m : Nat} {xs : List Str} (h : NamesB m xs) (hm : m ≤ 12) : xs.Nodup := by
  obtain ⟨h1, stem, f, _, _, h2⟩ := h
  refine List.pairwise_iff_getElem.mpr fun i j hi hj hij e => ?_
  have h3 : xs[i]? = some xs[j] := by rw [← e]; exact List.getElem?_eq_getElem hi
  have := (h2 i _ h3).inj (by omega) (by omega) (h2 j _ (List.getElem?_eq_getElem hj))
  omega
theorem CalledB.name {stem : List Nat} {f : Int} {i : Nat} {x : Str} (hl : stem.length ≤ 5) (hs : Smalls stem) (h : CalledB stem f i x) : isName x = true ∧ x.length ≤ 6 := by
  unfold CalledB at h
  have h12 : ((f + 5 * (i : Int)) % 12).toNat < 12 := by omega
  generalize ((f + 5 * (i : Int)) % 12).toNat = u at h h12
  subst h
  have h1 : (⟨(stem ++ [97 + u]).toArray⟩ : Str).length = stem.length + 1 := by
    show (stem ++ [97 + u]).toArray.size = _
    simp
  have hs2 : Smalls (stem ++ [97 + u]) := fun c hc => by
    rcases List.mem_append.mp hc with hc | hc
    · exact hs c hc
    · rw [List.mem_singleton.mp hc]; omega
  have hne : (⟨(stem ++ [97 + u]).toArray⟩ : Str) ≠ ("names" : Str) := fun e => by
    have e2 : stem ++ [97 + u] = ("names" : Str).cps.toList := by rw [← e]
    have e3 : ("names" : Str).cps.toList = [110, 97, 109, 101] ++ [115] := by decide +kernel
    rw [e3] at e2
    have e4 := (List.append_inj' e2 rfl).2
    simp at e4
    omega
  unfold isName
  simp only [Bool.and_eq_true, decide_eq_true_eq]
  exact ⟨⟨⟨⟨by omega, by omega⟩, small_list hs2⟩, hne⟩, by omega⟩
theorem NamesB.names {m : Nat} {xs : List Str} (h : NamesB m xs) (h0 : 1 ≤ m) (h6 : m ≤ 6) : areNames xs = true := by
  have hnd := h.nd (by omega)
  obtain ⟨h1, stem, f, hl, hs, h2⟩ := h
  unfold areNames
  simp only [Bool.and_eq_true, decide_eq_true_eq, List.all_eq_true]
  refine ⟨⟨⟨by omega, by omega⟩, hnd⟩, fun x hx => ?_⟩
  obtain ⟨i, hi⟩ := List.mem_iff_getElem?.mp hx
  exact ((h2 i x hi).name hl hs).1
theorem SignsB.ok {m : Nat} {xs : List Str} (h : SignsB m xs) : ∀ x ∈ xs, isLetter x = true := fun x hx => by
  obtain ⟨h1, f, h2⟩ := h
  obtain ⟨i, hi⟩ := List.mem_iff_getElem?.mp hx
  have h3 := h2 i x hi
  unfold SignB at h3
  have h26 : ((f + 5 * (i : Int)) % 26).toNat < 26 := by omega
  generalize ((f + 5 * (i : Int)) % 26).toNat = u at h3 h26
  subst h3
  unfold isLetter
  simp only [Bool.and_eq_true, decide_eq_true_eq]
  exact ⟨rfl, small_list (l := [97 + u]) fun c hc => by rw [List.mem_singleton.mp hc]; omega⟩

/-! ### a grammar drawn from a well -/
structure BuiltB (H H' : Hp) (s nl sg ru : Addr) (names signs : List Str) (rs : List Rule) : Prop where
  bt : But s H H'
  nm : H' nl = some (.lst (names.map V.str))
  sn : H' sg = some (.lst (signs.map V.str))
  tr : ∃ ts : List Addr, H' ru = some (.lst (ts.map V.ref)) ∧ Paired (TrioF H H') ts rs
variable {nl sg ru : Addr} {names signs : List Str} {rs : List Rule}
theorem BuiltB.same (b : BuiltB H H' s nl sg ru names signs rs) (e : Same H' H2) : BuiltB H H2 s nl sg ru names signs rs := by
  obtain ⟨ts, h1, h2⟩ := b.tr
  exact ⟨b.bt.same e, e _ _ b.nm, e _ _ b.sn, ts, e _ _ h1, Paired.mapP h2 fun _ _ ⟨a, w, c, h3, h4⟩ => ⟨a, w, c, e _ _ h3, e _ _ h4⟩⟩
theorem BuiltB.but (b : BuiltB H H' s nl sg ru names signs rs) (w : WellAt H' s n) (e : But s H' H2) : BuiltB H H2 s nl sg ru names signs rs := by
  obtain ⟨ts, h1, h2⟩ := b.tr
  exact ⟨b.bt.trans e, e _ _ (w.ne_strs b.nm) b.nm, e _ _ (w.ne_strs b.sn) b.sn, ts, e _ _ (w.ne_refs h1) h1, Paired.mapP h2 fun _ _ ⟨a, x, c, h3, h4⟩ => ⟨a, x, c, e _ _ (w.ne_tup h3) h3, e _ _ (w.ne_strs h4) h4⟩⟩
theorem BuiltB.dict (b : BuiltB H H' s nl sg ru names signs rs) {x : Addr} {kvs kvs2 : List (Key × V)} (hx : H' x = some (.dK kvs)) (h0 : H x = none) : BuiltB H (upd H' x (.dK kvs2)) s nl sg ru names signs rs := by
  obtain ⟨ts, h1, h2⟩ := b.tr
  have kp : ∀ (a : Addr) (o : HO), H' a = some o → (∀ q, o ≠ .dK q) → upd H' x (.dK kvs2) a = some o := fun a o h n => by
    rw [upd_ne (fun z => by rw [z, hx] at h; exact n _ (Option.some.inj h).symm)]; exact h
  exact ⟨b.bt.cell h0 _, kp _ _ b.nm fun q z => (by cases z), kp _ _ b.sn fun q z => (by cases z), ts, kp _ _ h1 fun q z => (by cases z), Paired.mapP h2 fun _ _ ⟨a, w, c, h3, h4⟩ => ⟨a, w, c, kp _ _ h3 fun q z => (by cases z), kp _ _ h4 fun q z => (by cases z)⟩⟩
theorem BuiltB.put (b : BuiltB H H' s nl sg ru names signs rs) (hru : H ru = none) (hn : names ≠ []) (hg : signs ≠ []) {ts : List Addr} (hts : H' ru = some (.lst (ts.map V.ref))) {t w : Addr} {r : Rule} (nw : w ≠ ru) (h : TrioF H H' t r) (hw : H' t = some (.tup [.str r.1, .str r.2.1, .ref w])) :
    BuiltB H (upd H' ru (.lst (ts.map V.ref ++ [.ref t]))) s nl sg ru names signs (rs ++ [r]) := by
  obtain ⟨ts', h1, h2⟩ := b.tr
  have ets : ts' = ts := by
    rw [h1] at hts
    exact List.map_inj_right (fun x y q => V.ref.inj q) |>.mp (HO.lst.inj (Option.some.inj hts))
  subst ets
  have nstr : ∀ {a : Addr} {xs : List Str}, H' a = some (.lst (xs.map V.str)) → xs ≠ [] → a ≠ ru := fun {a xs} h3 hx z => by
    rw [z, h1] at h3
    cases xs with
    | nil => exact hx rfl
    | cons x q => cases ts' with
      | nil => cases h3
      | cons t r => cases h3
  have tp : ∀ (a : Addr) (vs : List V), H' a = some (.tup vs) → upd H' ru (.lst (ts'.map V.ref ++ [.ref t])) a = some (.tup vs) := fun a vs h => by
    rw [upd_ne (fun z => by rw [z, h1] at h; cases h)]; exact h
  have h3 : Paired (TrioF H (upd H' ru (.lst (ts'.map V.ref ++ [.ref t])))) ts' rs := by
    by_cases ce : ts' = []
    · rw [ce] at h2
      rw [ce]
      cases h2
      exact .nil
    · refine Paired.mapP h2 fun t' r' ⟨a, w', c, h3, h4⟩ => ⟨a, w', c, tp _ _ h3, ?_⟩
      rw [upd_ne]
      · exact h4
      · intro z
        rw [z, h1] at h4
        exact ce (strs_refs (Option.some.inj h4).symm)
  obtain ⟨a, w', c, h4, h5⟩ := h
  have ew : w' = w := by
    rw [hw] at h4
    have := HO.tup.inj (Option.some.inj h4)
    simp at this
    exact this.symm
  subst ew
  refine ⟨b.bt.cell hru _, by rw [upd_ne (nstr b.nm hn)]; exact b.nm, by rw [upd_ne (nstr b.sn hg)]; exact b.sn, ts' ++ [t], by rw [upd_same, List.map_append]; rfl, ?_⟩
  exact paired_app (F := TrioF H _) ⟨a, w', c, tp _ _ h4, by rw [upd_ne nw]; exact h5⟩ h3
/-- no two rules of a name by one letter -/
def PlainR (rs : List Rule) : Prop := ∀ n, ((rulesOf rs n).map (·.1)).Nodup
theorem PlainR.put {rs : List Rule} (h : PlainR rs) {r : Rule} (hr : r.2.1 ∉ (rulesOf rs r.1).map (·.1)) : PlainR (rs ++ [r]) := fun n => by
  rw [rulesOf_snoc]
  by_cases c : r.1 = n
  · rw [if_pos c, List.map_append, List.nodup_append]
    refine ⟨h n, by simp, fun a ha b hb e => hr ?_⟩
    rw [c, ← (List.mem_singleton.mp hb : b = r.2.1), ← e]
    exact ha
  · rw [if_neg c]
    exact h n
/-- every name comes to an end -/
def EndsR (names : List Str) (rs : List Rule) : Prop := ∀ x ∈ names, ∃ v, Der (edR rs) x v
theorem Der.more {E E' : List Edge} (h : ∀ e, e ∈ E → e ∈ E') {n : Str} {v : Nat} (d : Der E n v) : Der E' n v := let ⟨k, d⟩ := d; ⟨k, d.sub h⟩
theorem edR_more {rs : List Rule} {r : Rule} : ∀ e, e ∈ edR rs → e ∈ edR (rs ++ [r]) := fun e he => by
  unfold edR at *
  rw [List.map_append]
  exact List.mem_append_left _ he
theorem EndsR.row {names : List Str} {rs : List Rule} (h : EndsR names rs) : ∀ {row : List Str}, (∀ x ∈ row, x ∈ names) → ∃ k, ∃ vs : List Nat, vs.length = row.length ∧ ∀ p ∈ row.zip vs, Dv (edR rs) k p.1 p.2
  | [], _ => ⟨0, [], rfl, fun p hp => by cases hp⟩
  | x :: t, hx => by
    obtain ⟨k, vs, hl, hd⟩ := EndsR.row h (row := t) fun y hy => hx y (List.mem_cons_of_mem _ hy)
    obtain ⟨v, k2, d⟩ := h x (hx x List.mem_cons_self)
    refine ⟨max k k2, v :: vs, by simp [hl], fun p hp => ?_⟩
    rw [List.zip_cons_cons] at hp
    rcases List.mem_cons.mp hp with rfl | hp
    · exact d.mono (Nat.le_max_right _ _)
    · exact (hd p hp).mono (Nat.le_max_left _ _)
theorem EndsR.put {names : List Str} {rs : List Rule} (h : EndsR names rs) {r : Rule} (hr : ∀ x ∈ r.2.2, x ∈ names) : EndsR (names ++ [r.1]) (rs ++ [r]) := fun x hx => by
  rcases List.mem_append.mp hx with hx | hx
  · obtain ⟨v, d⟩ := h x hx
    exact ⟨v, d.more edR_more⟩
  · rw [List.mem_singleton.mp hx]
    obtain ⟨k, vs, hl, hd⟩ := h.row hr
    refine ⟨_, k + 1, r.2.2, ?_, vs, hl, fun p hp => (hd p hp).sub edR_more, rfl⟩
    unfold edR
    rw [List.map_append]
    exact List.mem_append_right _ List.mem_cons_self
theorem EndsR.more {names : List Str} {rs : List Rule} (h : EndsR names rs) (r : Rule) : EndsR names (rs ++ [r]) := fun x hx => by
  obtain ⟨v, d⟩ := h x hx
  exact ⟨v, d.more edR_more⟩
theorem okL {names signs : List Str} {rs : List Rule} (sok : ∀ x ∈ signs, isLetter x = true) (h : ∀ r ∈ rs, r.1 ∈ names ∧ r.2.1 ∈ signs ∧ r.2.2.length ≤ 3 ∧ ∀ x ∈ r.2.2, x ∈ names) : ∀ r ∈ rs, r.1 ∈ names ∧ isLetter r.2.1 = true ∧ r.2.2.length ≤ 3 ∧ ∀ x ∈ r.2.2, x ∈ names := fun r hr => let ⟨a, b, c, d⟩ := h r hr; ⟨a, sok _ b, c, d⟩
def sp_rulesB : Sp := fun vs H Q _ => ∃ (s nl sg : Addr) (plain : Bool) (most : Int) (names signs : List Str) (n : Nat), vs = [.ref s, .ref nl, .ref sg, .bl plain, .int most] ∧ WellAt H s n ∧ n ≤ 10000000 ∧ H nl = some (.lst (names.map V.str)) ∧ H sg = some (.lst (signs.map V.str)) ∧ names.Nodup ∧ 1 ≤ names.length ∧ names.length ≤ 6 ∧ signs ≠ [] ∧ signs.length ≤ 100 ∧ (∀ x ∈ signs, isLetter x = true) ∧
  ∀ p ru kn H' (rs : List Rule), But s H H' → WellAt H' s (n + 1000) → H p = none → H ru = none → H kn = none → H' p = some (.tup [.ref ru, .ref kn]) → (∃ ts : List Addr, H' ru = some (.lst (ts.map V.ref)) ∧ Paired (TrioF H H') ts rs) → (∃ kvs, H' kn = some (.dK kvs)) → GoodR names rs → (plain = true → PlainR rs) → EndsR names rs → rs.length ≤ 24 → (∀ r ∈ rs, r.2.1 ∈ signs) → Q (.ref p) H'
end SG
/-! bases refined, in plain words -/
namespace SG
open PySem PySem.Spec PyProof.Rows L2
abbrev KB := List (Str × List Str)
def wsum (wt : Str → Nat) (row : List Str) : Nat := (row.map wt).sum
def outK (bag : Bool) (kb : KB) (ns : List Str) : List Str := if bag then ssort (outs kb ns) else outs kb ns
def stK (bag : Bool) (rs : List Rule) (one : List Str) : List Step := if bag then bagSteps rs one else rowSteps rs one
def outsOf (bag : Bool) (kb : KB) (steps : List Step) : List Step := each1 (steps.map fun s => (s.1, outK bag kb s.2))
def lessR (rs : List Rule) (wt : Str → Nat) (n : Str) : List (Str × List Str) := (rulesOf rs n).filter fun p => decide (wsum wt p.2 + 1 = wt n)
def withoutB : List Str → List Str → Option (List Str)
  | rest, [] => some rest
  | rest, n :: part => if n ∈ rest then withoutB (rest.erase n) part else none
def without (bag : Bool) (whole part : List Str) : Option (List Str) := if bag then withoutB whole part else if whole.take part.length = part then some (whole.drop part.length) else none
def asK (bag : Bool) (xs : List Str) : List Str := if bag then ssort xs else xs
/-- what one first name gives -/
def candOf (bag : Bool) (rs : List Rule) (wt : Str → Nat) (kb : KB) (letter : Str) (whole : List Str) (f : Str) : List (List Str) :=
  (lessR rs wt f).filterMap fun p => if p.1 = letter then (without bag whole (outK bag kb p.2)).map fun rest => asK bag (f :: rest) else none
def cands (bag : Bool) (rs : List Rule) (wt : Str → Nat) (kb : KB) (firsts : List Str) (n : Str) : List (List Str) :=
  match lessR rs wt n with
  | [] => []
  | p :: _ => firsts.flatMap (candOf bag rs wt kb p.1 (outK bag kb p.2))
def lessS (bag : Bool) (rs : List Rule) (wt : Str → Nat) (one : List Str) : List Step := (stK bag rs one).filter fun s => decide (wsum wt s.2 + 1 = wsum wt one)
def outsBy (bag : Bool) (rs : List Rule) (wt : Str → Nat) (kb : KB) (one : List Str) (less : Bool) : List Step := outsOf bag kb (if less then lessS bag rs wt one else stK bag rs one)
def passes (bag : Bool) (rs : List Rule) (wt : Str → Nat) (old kb : KB) (n : Str) (m : List Str) : Bool :=
  decide (outK bag old [n] = outK bag old m) && decide (outsBy bag rs wt old [n] false = outsBy bag rs wt old m false) && decide (outsBy bag rs wt kb [n] true = outsBy bag rs wt kb m true)
def takeR (bag : Bool) (rs : List Rule) (wt : Str → Nat) (old : KB) (st : KB × List Str) (n : Str) : KB × List Str :=
  match (cands bag rs wt st.1 st.2 n).find? (passes bag rs wt old st.1 n) with
  | some m => (st.1 ++ [(n, m)], st.2)
  | none => (st.1, st.2 ++ [n])
def refineS (bag : Bool) (rs : List Rule) (wt : Str → Nat) (old : KB) (pre : List Str) : KB × List Str := pre.foldl (takeR bag rs wt old) ([], [])
def refineR (bag : Bool) (rs : List Rule) (wt : Str → Nat) (old : KB) (ord : List Str) : KB := (refineS bag rs wt old ord).1
def baseN (wt : Str → Nat) (ord : List Str) : KB := ord.tail.map fun n => (n, List.replicate (wt n) (ord.headD ""))
def bs (bag : Bool) (rs : List Rule) (wt : Str → Nat) (ord : List Str) : Nat → KB
  | 0 => baseN wt ord
  | k + 1 => refineR bag rs wt (bs bag rs wt ord k) ord
/-- what is known of a grammar all of whose names come to nothing -/
structure GW (ord : List Str) (rs : List Rule) (wt : Str → Nat) : Prop where
  nd : ord.Nodup
  srt : ord.Pairwise fun a b => wt a ≤ wt b
  ne : ord ≠ []
  rul : ∀ n ∈ ord, ∀ p ∈ rulesOf rs n, (∀ x ∈ p.2, x ∈ ord) ∧ wt n ≤ wsum wt p.2 + 1
  less : ∀ n ∈ ord, ∃ p ∈ rulesOf rs n, wsum wt p.2 + 1 = wt n
theorem GW.pos {ord : List Str} {rs : List Rule} {wt : Str → Nat} (g : GW ord rs wt) {n : Str} (h : n ∈ ord) : 1 ≤ wt n := by
  obtain ⟨p, _, e⟩ := g.less n h
  omega
theorem wsum_cons (wt : Str → Nat) (x : Str) (xs : List Str) : wsum wt (x :: xs) = wt x + wsum wt xs := rfl
theorem wsum_app (wt : Str → Nat) (xs ys : List Str) : wsum wt (xs ++ ys) = wsum wt xs + wsum wt ys := by
  unfold wsum
  rw [List.map_append, List.sum_append]
theorem wsum_perm {wt : Str → Nat} {xs ys : List Str} (h : xs.Perm ys) : wsum wt xs = wsum wt ys := by
  induction h with
  | nil => rfl
  | cons x _ ih => rw [wsum_cons, wsum_cons, ih]
  | swap x y l => rw [wsum_cons, wsum_cons, wsum_cons, wsum_cons]; omega
  | trans _ _ a b => exact a.trans b
theorem wsum_mem {wt : Str → Nat} {xs : List Str} {x : Str} (h : x ∈ xs) : wt x ≤ wsum wt xs := by
  induction xs with
  | nil => cases h
  | cons y ys ih =>
    rw [wsum_cons]
    rcases List.mem_cons.mp h with rfl | h
    · omega
    · have := ih h; omega
theorem wsum_len {wt : Str → Nat} {xs : List Str} (h : ∀ x ∈ xs, 1 ≤ wt x) : xs.length ≤ wsum wt xs := by
  induction xs with
  | nil => exact Nat.zero_le _
  | cons y ys ih =>
    have := h y List.mem_cons_self
    have := ih fun x hx => h x (List.mem_cons_of_mem _ hx)
    rw [wsum_cons, List.length_cons]
    omega
theorem withoutB_perm : ∀ {part whole rest : List Str}, withoutB whole part = some rest → whole.Perm (part ++ rest)
  | [], whole, rest, h => by
    have e : whole = rest := Option.some.inj h
    rw [e]
    exact List.Perm.refl _
  | n :: part, whole, rest, h => by
    unfold withoutB at h
    split at h
    · rename_i hm
      have ih := withoutB_perm h
      exact (List.perm_cons_erase hm).trans (ih.cons n)
    · cases h
theorem without_perm {bag : Bool} {whole part rest : List Str} (h : without bag whole part = some rest) : whole.Perm (part ++ rest) := by
  unfold without at h
  cases bag with
  | true => exact withoutB_perm h
  | false =>
    rw [if_neg Bool.false_ne_true] at h
    split at h
    · rename_i e
      have h := Option.some.inj h
      rw [← h, ← e]
      conv => lhs; rw [← List.take_append_drop part.length whole]
      rw [e]
    · cases h
theorem outK_perm (bag : Bool) (kb : KB) (ns : List Str) : (outK bag kb ns).Perm (outs kb ns) := by
  unfold outK
  cases bag with
  | true => exact ssort_perm _
  | false => exact List.Perm.refl _
theorem asK_perm (bag : Bool) (xs : List Str) : (asK bag xs).Perm xs := by
  unfold asK
  cases bag with
  | true => exact ssort_perm _
  | false => exact List.Perm.refl _
theorem outs_cons (kb : KB) (n : Str) (ns : List Str) : outs kb (n :: ns) = mk kb n ++ outs kb ns := rfl
theorem outs_app (kb : KB) (ns ms : List Str) : outs kb (ns ++ ms) = outs kb ns ++ outs kb ms := by
  unfold outs
  rw [List.flatMap_append]
theorem outs_one (kb : KB) (n : Str) : outs kb [n] = mk kb n := by
  rw [outs_cons]
  exact List.append_nil _
theorem mk_none {kb : KB} {n : Str} (h : n ∉ kb.map (·.1)) : mk kb n = [n] := by
  unfold mk
  rw [List.find?_eq_none.mpr]
  · rfl
  · intro p hp
    rw [decide_eq_true_eq]
    rintro rfl
    exact h (List.mem_map_of_mem hp)
theorem mk_some {kb : KB} (nd : (kb.map (·.1)).Nodup) {n : Str} {m : List Str} (h : (n, m) ∈ kb) : mk kb n = m := by
  unfold mk
  obtain ⟨i, hi⟩ := List.mem_iff_getElem?.mp h
  rw [find_nd nd hi]
  rfl
theorem mk_cases (kb : KB) (n : Str) : (n ∉ kb.map (·.1) ∧ mk kb n = [n]) ∨ ∃ m, (n, m) ∈ kb ∧ mk kb n = m := by
  unfold mk
  cases e : kb.find? fun m => decide (m.1 = n) with
  | none =>
    refine .inl ⟨fun h => ?_, rfl⟩
    obtain ⟨p, hp, rfl⟩ := List.mem_map.mp h
    exact absurd (decide_eq_true rfl) (List.find?_eq_none.mp e p hp)
  | some p =>
    have h1 := List.find?_some e
    have h1 : p.1 = n := of_decide_eq_true h1
    exact .inr ⟨p.2, by rw [← h1]; exact List.mem_of_find?_eq_some e, rfl⟩
/-- a base as it should be -/
structure BInv (bag : Bool) (ord : List Str) (wt : Str → Nat) (kb : KB) : Prop where
  sub : (kb.map (·.1)).Sublist ord
  good : ∀ p ∈ kb, p.2 ≠ [] ∧ (∀ x ∈ p.2, x ∈ ord ∧ x ∉ kb.map (·.1) ∧ ord.idxOf x < ord.idxOf p.1) ∧ wsum wt p.2 = wt p.1 ∧ asK bag p.2 = p.2
theorem BInv.nd {bag : Bool} {ord : List Str} {wt : Str → Nat} {kb : KB} (b : BInv bag ord wt kb) (h : ord.Nodup) : (kb.map (·.1)).Nodup := h.sublist b.sub
theorem mk_ne {bag : Bool} {ord : List Str} {wt : Str → Nat} {kb : KB} (b : BInv bag ord wt kb) (n : Str) : mk kb n ≠ [] := by
  rcases mk_cases kb n with ⟨_, e⟩ | ⟨m, h, e⟩
  · rw [e]; exact List.cons_ne_nil _ _
  · rw [e]; exact (b.good _ h).1
theorem mk_wsum {bag : Bool} {ord : List Str} {wt : Str → Nat} {kb : KB} (b : BInv bag ord wt kb) (n : Str) : wsum wt (mk kb n) = wt n := by
  rcases mk_cases kb n with ⟨_, e⟩ | ⟨m, h, e⟩
  · rw [e]; exact Nat.add_zero _
  · rw [e]; exact (b.good _ h).2.2.1
theorem outs_wsum {bag : Bool} {ord : List Str} {wt : Str → Nat} {kb : KB} (b : BInv bag ord wt kb) : ∀ ns, wsum wt (outs kb ns) = wsum wt ns
  | [] => rfl
  | n :: ns => by rw [outs_cons, wsum_app, mk_wsum b, outs_wsum b ns, wsum_cons]
theorem outK_wsum {bag : Bool} {ord : List Str} {wt : Str → Nat} {kb : KB} (b : BInv bag ord wt kb) (bag' : Bool) (ns : List Str) : wsum wt (outK bag' kb ns) = wsum wt ns := by
  rw [wsum_perm (outK_perm bag' kb ns), outs_wsum b]
theorem mk_in {bag : Bool} {ord : List Str} {wt : Str → Nat} {kb : KB} (b : BInv bag ord wt kb) {n : Str} (hn : n ∈ ord) : ∀ x ∈ mk kb n, x ∈ ord ∧ x ∉ kb.map (·.1) := by
  rcases mk_cases kb n with ⟨h, e⟩ | ⟨m, h, e⟩
  · rw [e]
    intro x hx
    rw [List.mem_singleton.mp hx]
    exact ⟨hn, h⟩
  · rw [e]
    intro x hx
    exact ⟨((b.good _ h).2.1 x hx).1, ((b.good _ h).2.1 x hx).2.1⟩
theorem outs_in {bag : Bool} {ord : List Str} {wt : Str → Nat} {kb : KB} (b : BInv bag ord wt kb) {ns : List Str} (hn : ∀ n ∈ ns, n ∈ ord) : ∀ x ∈ outs kb ns, x ∈ ord ∧ x ∉ kb.map (·.1) := fun x hx => by
  obtain ⟨n, h1, h2⟩ := List.mem_flatMap.mp hx
  exact mk_in b (hn n h1) x h2
theorem outs_firsts {kb : KB} : ∀ {ns : List Str}, (∀ n ∈ ns, n ∉ kb.map (·.1)) → outs kb ns = ns
  | [], _ => rfl
  | n :: ns, h => by
    rw [outs_cons, mk_none (h n List.mem_cons_self), outs_firsts fun x hx => h x (List.mem_cons_of_mem _ hx)]
    rfl
theorem mem_keys {kb : KB} {n : Str} : n ∈ kb.map (·.1) ↔ ∃ m, (n, m) ∈ kb := by
  constructor
  · intro h
    obtain ⟨p, hp, rfl⟩ := List.mem_map.mp h
    exact ⟨p.2, hp⟩
  · rintro ⟨m, h⟩
    exact List.mem_map_of_mem (f := Prod.fst) h
/-- the base ahead of a name, and the first names ahead of it -/
structure SInv (bag : Bool) (ord : List Str) (wt : Str → Nat) (old : KB) (pre : List Str) (st : KB × List Str) : Prop where
  sub : (st.1.map (·.1)).Sublist pre
  fst : st.2 = pre.filter fun n => decide (n ∉ st.1.map (·.1))
  good : ∀ p ∈ st.1, p.2 ≠ [] ∧ (∀ x ∈ p.2, x ∈ ord ∧ x ∈ st.2 ∧ ord.idxOf x < ord.idxOf p.1) ∧ wsum wt p.2 = wt p.1 ∧ asK bag p.2 = p.2 ∧ outK bag old [p.1] = outK bag old p.2
theorem idx_lt {ord pre post : List Str} {x y : Str} (e : ord = pre ++ y :: post) (nd : ord.Nodup) (h : x ∈ pre) : ord.idxOf x < ord.idxOf y := by
  subst e
  have hy : y ∉ pre := fun hy => (List.nodup_append.mp nd).2.2 y hy y List.mem_cons_self rfl
  have h1 : (pre ++ y :: post).idxOf x = pre.idxOf x := by
    rw [List.idxOf_append, if_pos h]
  have h2 : (pre ++ y :: post).idxOf y = pre.length := by
    rw [List.idxOf_append, if_neg hy, List.idxOf_cons_self]
    omega
  rw [h1, h2]
  exact List.idxOf_lt_length_of_mem h
theorem less_ahead {ord pre post : List Str} {rs : List Rule} {wt : Str → Nat} {n x : Str} (g : GW ord rs wt) (e : ord = pre ++ n :: post) (hx : x ∈ ord) (h : wt x < wt n) : x ∈ pre := by
  have hp := g.srt
  rw [e] at hp hx
  rcases List.mem_append.mp hx with hx | hx
  · exact hx
  · exfalso
    have h2 := (List.pairwise_append.mp hp).2.1
    rcases List.mem_cons.mp hx with rfl | hx
    · omega
    · have := (List.pairwise_cons.mp h2).1 x hx
      omega
theorem SInv.binv {bag : Bool} {ord : List Str} {wt : Str → Nat} {old : KB} {pre : List Str} {st : KB × List Str} (s : SInv bag ord wt old pre st) (h : pre.Sublist ord) : BInv bag ord wt st.1 where
  sub := s.sub.trans h
  good := fun p hp => by
    obtain ⟨h1, h2, h3, h4, _⟩ := s.good p hp
    refine ⟨h1, fun x hx => ?_, h3, h4⟩
    obtain ⟨a, b, c⟩ := h2 x hx
    rw [s.fst, List.mem_filter] at b
    exact ⟨a, of_decide_eq_true b.2, c⟩
theorem mem_lessR {rs : List Rule} {wt : Str → Nat} {n : Str} {p : Str × List Str} : p ∈ lessR rs wt n ↔ p ∈ rulesOf rs n ∧ wsum wt p.2 + 1 = wt n := by
  unfold lessR
  rw [List.mem_filter, decide_eq_true_eq]
theorem asK_idem (bag : Bool) (xs : List Str) : asK bag (asK bag xs) = asK bag xs := by
  unfold asK
  cases bag with
  | true => exact ssort_eq (ssort_perm _)
  | false => rfl
/-- what the outs of which a name may be made are -/
theorem cands_good {bag : Bool} {ord pre post : List Str} {rs : List Rule} {wt : Str → Nat} {old : KB} {st : KB × List Str} {n : Str} {m : List Str} (g : GW ord rs wt) (e : ord = pre ++ n :: post) (s : SInv bag ord wt old pre st) (h : m ∈ cands bag rs wt st.1 st.2 n) :
    m ≠ [] ∧ (∀ x ∈ m, x ∈ ord ∧ x ∈ st.2 ∧ ord.idxOf x < ord.idxOf n) ∧ wsum wt m = wt n ∧ asK bag m = m := by
  have hn : n ∈ ord := by rw [e]; simp
  have hsub : pre.Sublist ord := by rw [e]; exact List.sublist_append_left _ _
  have b := s.binv hsub
  have pin : ∀ x ∈ st.2, x ∈ pre := fun x hx => by rw [s.fst] at hx; exact (List.mem_filter.mp hx).1
  unfold cands at h
  cases hq : lessR rs wt n with
  | nil => rw [hq] at h; cases h
  | cons q qs =>
    rw [hq] at h
    obtain ⟨f, hf, h⟩ := List.mem_flatMap.mp h
    obtain ⟨p, hp, h⟩ := List.mem_filterMap.mp h
    have hq1 := mem_lessR.mp (show q ∈ lessR rs wt n by rw [hq]; exact List.mem_cons_self)
    have hp1 := mem_lessR.mp hp
    split at h
    · obtain ⟨rest, hr, rfl⟩ := Option.map_eq_some_iff.mp h
      have hw := without_perm hr
      have inF : ∀ x ∈ outK bag st.1 q.2, x ∈ ord ∧ x ∈ st.2 := fun x hx => by
        have hx := (outK_perm _ _ _).mem_iff.mp hx
        obtain ⟨y, hy, hx⟩ := List.mem_flatMap.mp hx
        have hy1 : y ∈ ord := ((g.rul n hn q hq1.1).1 y hy)
        have hy2 : wt y < wt n := by have := wsum_mem (wt := wt) hy; omega
        have hy3 := less_ahead g e hy1 hy2
        obtain ⟨h1, h2⟩ := mk_in b hy1 x hx
        refine ⟨h1, ?_⟩
        rw [s.fst, List.mem_filter, decide_eq_true_eq]
        refine ⟨?_, h2⟩
        rcases mk_cases st.1 y with ⟨_, e1⟩ | ⟨m2, h3, e1⟩
        · rw [e1] at hx
          rw [List.mem_singleton.mp hx]
          exact hy3
        · rw [e1] at hx
          exact pin x ((s.good _ h3).2.1 x hx).2.1
      have hin : ∀ x ∈ f :: rest, x ∈ ord ∧ x ∈ st.2 := fun x hx => by
        rcases List.mem_cons.mp hx with rfl | hx
        · exact ⟨hsub.subset (pin x hf), hf⟩
        · exact inF x (hw.mem_iff.mpr (List.mem_append_right _ hx))
      have pm := asK_perm bag (f :: rest)
      refine ⟨fun h0 => ?_, fun x hx => ?_, ?_, asK_idem _ _⟩
      · have := pm.length_eq
        rw [h0] at this
        simp at this
      · obtain ⟨h1, h2⟩ := hin x (pm.mem_iff.mp hx)
        exact ⟨h1, h2, idx_lt e g.nd (pin x h2)⟩
      · rw [wsum_perm pm, wsum_cons]
        have h1 := wsum_perm (wt := wt) hw
        rw [wsum_app, outK_wsum b, outK_wsum b] at h1
        omega
    · cases h
theorem takeR_inv {bag : Bool} {ord pre post : List Str} {rs : List Rule} {wt : Str → Nat} {old : KB} {st : KB × List Str} {n : Str} (g : GW ord rs wt) (e : ord = pre ++ n :: post) (s : SInv bag ord wt old pre st) : SInv bag ord wt old (pre ++ [n]) (takeR bag rs wt old st n) := by
  have hnp : n ∉ pre := fun hy => (List.nodup_append.mp (e ▸ g.nd)).2.2 n hy n List.mem_cons_self rfl
  have hnk : n ∉ st.1.map (·.1) := fun h => hnp (s.sub.subset h)
  unfold takeR
  cases hc : (cands bag rs wt st.1 st.2 n).find? (passes bag rs wt old st.1 n) with
  | some m =>
    have hm := List.mem_of_find?_eq_some hc
    have hpass := List.find?_some hc
    obtain ⟨h1, h2, h3, h4⟩ := cands_good g e s hm
    have h5 : outK bag old [n] = outK bag old m := by
      unfold passes at hpass
      rw [Bool.and_eq_true, Bool.and_eq_true, decide_eq_true_eq] at hpass
      exact hpass.1.1
    have e2 : (st.1 ++ [(n, m)]).map (·.1) = st.1.map (·.1) ++ [n] := by rw [List.map_append]; rfl
    refine ⟨?_, ?_, fun p hp => ?_⟩
    · show ((st.1 ++ [(n, m)]).map (·.1)).Sublist _
      rw [e2]
      exact s.sub.append (List.Sublist.refl _)
    · show st.2 = _
      rw [List.filter_append, s.fst]
      have h6 : [n].filter (fun x => decide (x ∉ (st.1 ++ [(n, m)]).map (·.1))) = [] := by
        rw [e2]
        simp
      show _ = _ ++ [n].filter (fun x => decide (x ∉ (st.1 ++ [(n, m)]).map (·.1)))
      rw [h6, List.append_nil]
      refine List.filter_congr fun x hx => ?_
      show _ = decide (x ∉ (st.1 ++ [(n, m)]).map (·.1))
      rw [e2]
      refine decide_eq_decide.mpr ?_
      rw [List.mem_append, not_or]
      exact ⟨fun h => ⟨h, fun z => hnp (by rw [List.mem_singleton.mp z] at hx; exact hx)⟩, fun h => h.1⟩
    · rcases List.mem_append.mp (show p ∈ st.1 ++ [(n, m)] from hp) with hp | hp
      · exact s.good p hp
      · rw [List.mem_singleton.mp hp]
        exact ⟨h1, h2, h3, h4, h5⟩
  | none =>
    refine ⟨s.sub.trans (List.sublist_append_left _ _), ?_, fun p hp => ?_⟩
    · show st.2 ++ [n] = _
      rw [List.filter_append, s.fst]
      have h6 : [n].filter (fun x => decide (x ∉ st.1.map (·.1))) = [n] := by
        rw [List.filter_cons_of_pos (by simpa using hnk)]
        rfl
      rw [h6]
    · obtain ⟨h1, h2, h3⟩ := s.good p hp
      exact ⟨h1, fun x hx => ⟨(h2 x hx).1, List.mem_append_left _ (h2 x hx).2.1, (h2 x hx).2.2⟩, h3⟩
theorem foldl_snoc {α β : Type} (f : α → β → α) (a : α) (xs : List β) (x : β) : (xs ++ [x]).foldl f a = f (xs.foldl f a) x := by
  rw [List.foldl_append]
  rfl
theorem refineS_inv {bag : Bool} {ord : List Str} {rs : List Rule} {wt : Str → Nat} {old : KB} (g : GW ord rs wt) : ∀ (k : Nat), SInv bag ord wt old (ord.take k) (refineS bag rs wt old (ord.take k))
  | 0 => ⟨by simp [refineS], by simp [refineS], fun p hp => by simp [refineS] at hp⟩
  | k + 1 => by
    have ih := refineS_inv (bag := bag) (old := old) g k
    cases hk : ord[k]? with
    | none =>
      have h1 : ord.length ≤ k := List.getElem?_eq_none_iff.mp hk
      rw [List.take_of_length_le (by omega)]
      rw [List.take_of_length_le h1] at ih
      exact ih
    | some n =>
      have e1 := take_snoc hk
      have hl := (List.getElem?_eq_some_iff.mp hk)
      rw [e1]
      unfold refineS
      rw [foldl_snoc]
      refine takeR_inv (post := ord.drop (k + 1)) g ?_ ih
      obtain ⟨hl, hx⟩ := hl
      conv => lhs; rw [← List.take_append_drop k ord, List.drop_eq_getElem_cons hl, hx]
theorem refine_inv {bag : Bool} {ord : List Str} {rs : List Rule} {wt : Str → Nat} {old : KB} (g : GW ord rs wt) : SInv bag ord wt old ord (refineS bag rs wt old ord) := by
  have h := refineS_inv (bag := bag) (old := old) g ord.length
  rw [List.take_length] at h
  exact h
theorem refine_binv {bag : Bool} {ord : List Str} {rs : List Rule} {wt : Str → Nat} {old : KB} (g : GW ord rs wt) : BInv bag ord wt (refineR bag rs wt old ord) := (refine_inv g).binv (List.Sublist.refl _)
theorem head_one {ord : List Str} {rs : List Rule} {wt : Str → Nat} (g : GW ord rs wt) {x : Str} {xs : List Str} (e : ord = x :: xs) : wt x = 1 := by
  have hx : x ∈ ord := by rw [e]; exact List.mem_cons_self
  obtain ⟨p, hp, h⟩ := g.less x hx
  cases hq : p.2 with
  | nil => rw [hq] at h; exact h.symm
  | cons y ys =>
    have hy := (g.rul x hx p hp).1 y (by rw [hq]; exact List.mem_cons_self)
    rw [hq, wsum_cons] at h
    have h2 := g.srt
    rw [e] at h2 hy
    rcases List.mem_cons.mp hy with rfl | hy
    · omega
    · have := (List.pairwise_cons.mp h2).1 y hy
      omega
theorem baseN_inv {bag : Bool} {ord : List Str} {rs : List Rule} {wt : Str → Nat} (g : GW ord rs wt) : BInv bag ord wt (baseN wt ord) := by
  cases ho : ord with
  | nil => exact absurd ho g.ne
  | cons x xs =>
    have h1 := head_one g ho
    have nd := g.nd
    rw [ho] at nd
    have ek : (baseN wt (x :: xs)).map (·.1) = xs := by
      unfold baseN
      rw [List.map_map]
      show (xs.map fun n => n) = xs
      exact List.map_id' _
    have hx : x ∉ xs := (List.nodup_cons.mp nd).1
    refine ⟨by rw [ek]; exact List.sublist_cons_self _ _, fun p hp => ?_⟩
    rw [ek]
    obtain ⟨n, hn, rfl⟩ := List.mem_map.mp (show p ∈ xs.map fun n => (n, List.replicate (wt n) x) from hp)
    have hpos := g.pos (n := n) (by rw [ho]; exact List.mem_cons_of_mem _ hn)
    refine ⟨fun h0 => ?_, fun y hy => ?_, ?_, ?_⟩
    · have : (List.replicate (wt n) x).length = 0 := by rw [show List.replicate (wt n) x = [] from h0]; rfl
      rw [List.length_replicate] at this
      omega
    · have e := List.eq_of_mem_replicate hy
      subst e
      refine ⟨List.mem_cons_self, hx, ?_⟩
      have : (y :: xs).idxOf y = 0 := List.idxOf_cons_self
      rw [this]
      have hne : y ≠ n := fun z => hx (z ▸ hn)
      rw [List.idxOf_cons, beq_false_of_ne hne]
      exact Nat.succ_pos _
    · show wsum wt (List.replicate (wt n) x) = wt n
      unfold wsum
      rw [List.map_replicate, List.sum_replicate_nat, h1, Nat.mul_one]
    · show asK bag (List.replicate (wt n) x) = _
      unfold asK
      cases bag with
      | false => rfl
      | true =>
        show ssort _ = _
        have hp := ssort_perm (List.replicate (wt n) x)
        exact List.perm_replicate.mp hp
theorem bs_inv {bag : Bool} {ord : List Str} {rs : List Rule} {wt : Str → Nat} (g : GW ord rs wt) : ∀ k, BInv bag ord wt (bs bag rs wt ord k)
  | 0 => baseN_inv g
  | _ + 1 => refine_binv g
/-! the first names grow -/
theorem outK_one_of {bag : Bool} {kb : KB} {ns : List Str} {x : Str} (h : outK bag kb ns = [x]) : outs kb ns = [x] := by
  have hp := outK_perm bag kb ns
  rw [h] at hp
  exact List.perm_singleton.mp hp.symm
theorem keys_mono {bag : Bool} {ord : List Str} {rs : List Rule} {wt : Str → Nat} {old : KB} (g : GW ord rs wt) (b : BInv bag ord wt old) {x : Str} (hx : x ∈ (refineR bag rs wt old ord).map (·.1)) : x ∈ old.map (·.1) := by
  have s := refine_inv (bag := bag) (old := old) g
  refine Classical.byContradiction fun hn => ?_
  obtain ⟨m, hm⟩ := mem_keys.mp hx
  obtain ⟨h1, h2, h3, h4, h5⟩ := s.good _ hm
  have e1 : outK bag old [x] = [x] := by
    unfold outK
    rw [outs_one, mk_none hn]
    cases bag with
    | false => rfl
    | true => exact List.perm_singleton.mp (ssort_perm [x])
  have e2 := outK_one_of (h5.symm.trans e1)
  cases m with
  | nil => exact h1 rfl
  | cons f fs =>
    rw [outs_cons] at e2
    have hf := mk_ne b f
    cases hq : mk old f with
    | nil => exact hf hq
    | cons y ys =>
      rw [hq] at e2
      have ey : y = x := (List.cons.inj e2).1
      have hfx := (h2 f List.mem_cons_self).2.2
      rcases mk_cases old f with ⟨_, e3⟩ | ⟨m2, h6, e3⟩
      · rw [hq] at e3
        have : y = f := (List.cons.inj e3).1
        rw [← this, ey] at hfx
        exact Nat.lt_irrefl _ hfx
      · have hy : y ∈ m2 := by rw [← e3, hq]; exact List.mem_cons_self
        have := ((b.good _ h6).2.1 y hy).2.2
        rw [ey] at this
        exact Nat.lt_asymm this hfx
theorem sub_eq_of_mem {ord : List Str} (nd : ord.Nodup) : ∀ {a b : List Str}, a.Sublist ord → b.Sublist ord → (∀ x, x ∈ a ↔ x ∈ b) → a = b := by
  intro a b ha hb h
  have e : ∀ {c : List Str}, c.Sublist ord → c = ord.filter fun x => decide (x ∈ c) := by
    intro c hc
    clear ha hb h
    induction hc with
    | slnil => rfl
    | @cons l1 l2 y hs ih =>
      have nd2 := List.nodup_cons.mp nd
      rw [List.filter_cons_of_neg (by simpa using fun z => nd2.1 (hs.subset z))]
      exact ih nd2.2
    | @cons_cons l1 l2 y hs ih =>
      have nd2 := List.nodup_cons.mp nd
      rw [List.filter_cons_of_pos (by simp)]
      congr 1
      conv => lhs; rw [ih nd2.2]
      refine List.filter_congr fun x hx => decide_eq_decide.mpr ?_
      rw [List.mem_cons]
      exact ⟨.inr, fun z => z.elim (fun z => absurd (z ▸ hx) nd2.1) id⟩
  rw [e ha, e hb]
  exact List.filter_congr fun x _ => decide_eq_decide.mpr (h x)
theorem kb_ext : ∀ {a b : KB}, a.map (·.1) = b.map (·.1) → (∀ p ∈ a, ∀ q ∈ b, p.1 = q.1 → p.2 = q.2) → a = b
  | [], [], _, _ => rfl
  | [], _ :: _, h, _ => by cases h
  | _ :: _, [], h, _ => by cases h
  | p :: a, q :: b, h, k => by
    have h := List.cons.inj (show p.1 :: a.map (·.1) = q.1 :: b.map (·.1) from h)
    have e : p = q := Prod.ext h.1 (k p List.mem_cons_self q List.mem_cons_self h.1)
    rw [e, kb_ext h.2 fun x hx y hy => k x (List.mem_cons_of_mem _ hx) y (List.mem_cons_of_mem _ hy)]
theorem same_of_keys {bag : Bool} {ord : List Str} {rs : List Rule} {wt : Str → Nat} {old : KB} (g : GW ord rs wt) (b : BInv bag ord wt old) (h : ∀ x ∈ old.map (·.1), x ∈ (refineR bag rs wt old ord).map (·.1)) : refineR bag rs wt old ord = old := by
  have s := refine_inv (bag := bag) (old := old) g
  have b2 := refine_binv (bag := bag) (old := old) g
  have hk : ∀ x, x ∈ (refineR bag rs wt old ord).map (·.1) ↔ x ∈ old.map (·.1) := fun x => ⟨keys_mono g b, h x⟩
  refine kb_ext (sub_eq_of_mem g.nd b2.sub b.sub hk) fun p hp q hq e => ?_
  obtain ⟨h1, h2, h3, h4, h5⟩ := s.good p hp
  have hqk := mk_some (b.nd g.nd) (n := q.1) (m := q.2) hq
  have e1 : outK bag old [p.1] = q.2 := by
    unfold outK
    rw [outs_one, e, hqk]
    exact (b.good q hq).2.2.2
  have hf : outs old p.2 = p.2 := outs_firsts fun x hx => by
    have h6 := (b2.good p hp).2.1 x hx
    exact fun z => h6.2.1 ((hk x).mpr z)
  have e2 : outK bag old p.2 = p.2 := by
    unfold outK
    rw [hf]
    exact h4
  rw [← e1, h5, e2]
theorem nd_len {α : Type} [DecidableEq α] : ∀ {xs ys : List α}, xs.Nodup → (∀ x ∈ xs, x ∈ ys) → xs.length ≤ ys.length
  | [], _, _, _ => Nat.zero_le _
  | x :: xs, ys, nd, h => by
    have hx := h x List.mem_cons_self
    have nd2 := List.nodup_cons.mp nd
    have ih := nd_len (xs := xs) (ys := ys.erase x) nd2.2 fun y hy => (List.mem_erase_of_ne (show y ≠ x from fun z => nd2.1 (z ▸ hy))).mpr (h y (List.mem_cons_of_mem _ hy))
    rw [List.length_erase_of_mem hx] at ih
    have := List.length_pos_of_mem hx
    rw [List.length_cons]
    omega
/-- within as many turns as there are names it comes to a stop -/
theorem bs_keys {bag : Bool} {ord : List Str} {rs : List Rule} {wt : Str → Nat} (g : GW ord rs wt) : ∀ k, (∃ j, j < k ∧ bs bag rs wt ord (j + 1) = bs bag rs wt ord j) ∨ ((bs bag rs wt ord k).map (·.1)).length + k + 1 ≤ ord.length
  | 0 => .inr (by
      show ((baseN wt ord).map (·.1)).length + 0 + 1 ≤ _
      unfold baseN
      rw [List.length_map, List.length_map, List.length_tail]
      have := List.length_pos_iff.mpr g.ne
      omega)
  | k + 1 => by
    rcases bs_keys (bag := bag) g k with ⟨j, h1, h2⟩ | h
    · exact .inl ⟨j, by omega, h2⟩
    · by_cases c : bs bag rs wt ord (k + 1) = bs bag rs wt ord k
      · exact .inl ⟨k, by omega, c⟩
      · refine .inr ?_
        have b := bs_inv (bag := bag) g k
        have b2 := bs_inv (bag := bag) g (k + 1)
        have hlt : ((bs bag rs wt ord (k + 1)).map (·.1)).length < ((bs bag rs wt ord k).map (·.1)).length := by
          refine Classical.byContradiction fun hn => c (same_of_keys g b fun x hx => ?_)
          refine Classical.byContradiction fun hx2 => hn ?_
          have hsub : ∀ y ∈ x :: (bs bag rs wt ord (k + 1)).map (·.1), y ∈ (bs bag rs wt ord k).map (·.1) := fun y hy => by
            rcases List.mem_cons.mp hy with rfl | hy
            · exact hx
            · exact keys_mono g b hy
          exact nd_len (List.nodup_cons.mpr ⟨hx2, b2.nd g.nd⟩) hsub
        omega
theorem bs_stop {bag : Bool} {ord : List Str} {rs : List Rule} {wt : Str → Nat} (g : GW ord rs wt) : ∃ j, j < ord.length ∧ bs bag rs wt ord (j + 1) = bs bag rs wt ord j := by
  rcases bs_keys (bag := bag) g ord.length with h | h
  · exact h
  · omega
end SG
/-! words, in plain words -/
namespace SG
open PySem PySem.Spec PyProof.Rows L2
abbrev Row? := Option (List Str)
/-- the first rule of n by the letter c -/
def byL (rs : List Rule) (n c : Str) : Option Step := (rulesOf rs n).find? fun p => decide (p.1 = c)
def stepL (rs : List Rule) (o : Row?) (c : Str) : Row? := match o with
  | none => none
  | some [] => none
  | some (n :: t) => (byL rs n c).map fun p => p.2 ++ t
def signsOf (z : Str) : List Str := z.cps.toList.map fun c => (⟨#[c]⟩ : Str)
def byLs (rs : List Rule) (o : Row?) (z : Str) : Row? := (signsOf z).foldl (stepL rs) o
theorem signs_len (z : Str) : (signsOf z).length = z.length := by
  unfold signsOf
  rw [List.length_map]
  exact Array.length_toList
theorem signs_at {z : Str} {i c : Nat} (h : z.cps[i]? = some c) : (signsOf z)[i]? = some ⟨#[c]⟩ := by
  unfold signsOf
  rw [List.getElem?_map, Array.getElem?_toList, h]
  rfl
theorem stepL_none (rs : List Rule) : ∀ zs : List Str, zs.foldl (stepL rs) none = none
  | [] => rfl
  | _ :: r => stepL_none rs r
theorem stepL_len {rs : List Rule} (h : ShortR rs) {o : Row?} {c : Str} {k : Nat} (ho : ∀ r, o = some r → r.length ≤ k) : ∀ r, stepL rs o c = some r → r.length ≤ k + 1000 := fun r e => by
  unfold stepL at e
  match o, ho with
  | none, _ => cases e
  | some [], _ => cases e
  | some (n :: t), ho =>
    simp only at e
    cases h1 : byL rs n c with
    | none => rw [h1] at e; cases e
    | some p =>
      rw [h1] at e
      have e := Option.some.inj e
      have hp := h.2 _ (mem_rulesOf.mp (List.mem_of_find?_eq_some h1))
      have ht := ho _ rfl
      simp at hp ht
      rw [← e, List.length_append]
      omega
theorem stepL_in {names : List Str} {rs : List Rule} (h : ∀ r ∈ rs, ∀ x ∈ r.2.2, x ∈ names) {o : Row?} {c : Str} (ho : ∀ r, o = some r → ∀ x ∈ r, x ∈ names) : ∀ r, stepL rs o c = some r → ∀ x ∈ r, x ∈ names := fun r e => by
  unfold stepL at e
  match o, ho with
  | none, _ => cases e
  | some [], _ => cases e
  | some (n :: t), ho =>
    simp only at e
    cases h1 : byL rs n c with
    | none => rw [h1] at e; cases e
    | some p =>
      rw [h1] at e
      have e := Option.some.inj e
      have hp := h _ (mem_rulesOf.mp (List.mem_of_find?_eq_some h1))
      have ht := ho _ rfl
      intro x hx
      rw [← e] at hx
      rcases List.mem_append.mp hx with hx | hx
      · exact hp x hx
      · exact ht x (List.mem_cons_of_mem _ hx)
/-- None, or a list of names -/
def RowO (H : Hp) (v : V) (o : Row?) : Prop := (v = .non ∧ o = none) ∨ ∃ a row, v = .ref a ∧ o = some row ∧ H a = some (.lst (row.map V.str))
theorem RowO.same {H H' : Hp} {v : V} {o : Row?} (h : RowO H v o) (e : Same H H') : RowO H' v o := by
  rcases h with h | ⟨a, row, h1, h2, h3⟩
  · exact .inl h
  · exact .inr ⟨a, row, h1, h2, e _ _ h3⟩
/-- encoded -/
def eRO : Row? → PyData
  | none => .none
  | some r => eSs r
theorem enc_RO : Enc eRO := fun a b => by
  cases a with
  | none => cases b with
    | none => simp [eRO, PyData.eqv]
    | some y => simp [eRO, eSs, eL, PyData.eqv]
  | some x => cases b with
    | none => simp [eRO, eSs, eL, PyData.eqv]
    | some y =>
      show PyData.eqv (eSs x) (eSs y) = _
      rw [enc_Ss]
      by_cases c : x = y
      · simp [c]
      · simp [c]
theorem dep_RO : Dep eRO 1 := fun a => by
  cases a with
  | none => exact Nat.zero_le _
  | some r => exact dep_Ss r
theorem dp_RO {K : PySem.W.Frag} {H : Hp} {v : V} {o : Row?} (h : RowO H v o) : Dp K H v (eRO o) := by
  rcases h with ⟨rfl, rfl⟩ | ⟨a, row, rfl, rfl, h⟩
  · exact .non
  · exact dp_Ss h
/-- None, or a list of names that H0 does not know -/
def RowF (H0 H : Hp) (v : V) (o : Row?) : Prop := (v = .non ∧ o = none) ∨ ∃ a row, v = .ref a ∧ o = some row ∧ H0 a = none ∧ H a = some (.lst (row.map V.str))
theorem RowF.o {H0 H : Hp} {v : V} {o : Row?} (h : RowF H0 H v o) : RowO H v o := by
  rcases h with h | ⟨a, row, h1, h2, _, h3⟩
  · exact .inl h
  · exact .inr ⟨a, row, h1, h2, h3⟩
theorem RowF.same {H0 H H' : Hp} {v : V} {o : Row?} (h : RowF H0 H v o) (e : Same H H') : RowF H0 H' v o := by
  rcases h with h | ⟨a, row, h1, h2, h3, h4⟩
  · exact .inl h
  · exact .inr ⟨a, row, h1, h2, h3, e _ _ h4⟩
theorem RowF.under {H0 H1 H : Hp} {v : V} {o : Row?} (h : RowF H1 H v o) (e : Same H0 H1) : RowF H0 H v o := by
  rcases h with h | ⟨a, row, h1, h2, h3, h4⟩
  · exact .inl h
  · exact .inr ⟨a, row, h1, h2, e.free h3, h4⟩
/-- its names are known, it is no longer than k -/
def RowK (names : List Str) (k : Nat) (o : Row?) : Prop := ∀ r, o = some r → (∀ x ∈ r, x ∈ names) ∧ r.length ≤ k
theorem RowK.step {names : List Str} {rs : List Rule} {k : Nat} {o : Row?} (h : RowK names k o) (hin : ∀ r ∈ rs, r.1 ∈ names ∧ ∀ x ∈ r.2.2, x ∈ names) (hs : ShortR rs) (c : Str) : RowK names (k + 1000) (stepL rs o c) := fun r e =>
  ⟨stepL_in (fun r hr => (hin r hr).2) (fun r e => (h r e).1) r e, stepL_len hs (fun r e => (h r e).2) r e⟩
/-- twice by a letter -/
def twiceL (names : List Str) (rs : List Rule) : List Str := names.filter fun n => decide ((once ((rulesOf rs n).map (·.1))).length < ((rulesOf rs n).map (·.1)).length)
theorem twiceL_plain {names : List Str} {rs : List Rule} (h : PlainR rs) : twiceL names rs = [] := by
  unfold twiceL
  rw [List.filter_eq_nil_iff]
  intro n _ hc
  have h1 := (once_nodup ((rulesOf rs n).map (·.1))).mpr (h n)
  have := of_decide_eq_true hc
  omega
theorem endl_ends {names : List Str} {rs : List Rule} (h : EndsR names rs) : endl names (normW rs) = [] := by
  unfold endl
  rw [List.filter_eq_nil_iff]
  intro n hn hc
  obtain ⟨v, d⟩ := h n hn
  obtain ⟨u, e, _⟩ := muW_of d
  unfold normW at hc
  rw [e] at hc
  cases hc
/-! ### the law's own walk -/
def matchL (n c : Str) (r : Rule) : Bool := decide (r.1 = n) && decide (r.2.1 = c)
def someL (rs : List Rule) (row : List Str) (c : Str) : List (List Str) := match row with
  | [] => []
  | n :: t => (rs.filter (matchL n c)).map fun r => r.2.2 ++ t
theorem someL_nil (rs : List Rule) (c : Str) : someL rs [] c = [] := rfl
theorem someL_yes {rs : List Rule} {r : Rule} {n c : Str} (t : List Str) (h1 : r.1 = n) (h2 : r.2.1 = c) : someL (rs ++ [r]) (n :: t) c = someL rs (n :: t) c ++ [r.2.2 ++ t] := by
  unfold someL
  simp only
  rw [List.filter_append, List.map_append]
  congr 1
  rw [List.filter_cons_of_pos (by unfold matchL; simp [h1, h2])]
  rfl
theorem someL_no {rs : List Rule} {r : Rule} {n c : Str} (t : List Str) (h : ¬ (r.1 = n ∧ r.2.1 = c)) : someL (rs ++ [r]) (n :: t) c = someL rs (n :: t) c := by
  unfold someL
  simp only
  rw [List.filter_append, List.filter_cons_of_neg (by unfold matchL; simpa using h), List.filter_nil, List.append_nil]
theorem someL_step (rs : List Rule) (row : List Str) (c : Str) : stepL rs (some row) c = (someL rs row c).head? := by
  cases row with
  | nil => rfl
  | cons n t =>
    unfold stepL someL byL rulesOf
    simp only
    rw [List.head?_map, List.head?_filter, List.find?_map, List.find?_filter, Option.map_map]
    have e : (fun a : Rule => decide (decide (a.1 = n) = true ∧ ((fun p : Step => decide (p.1 = c)) ∘ fun x : Rule => x.2) a = true)) = matchL n c := by
      funext a
      unfold matchL
      simp
    rw [e]
    rfl
theorem someL_len (rs : List Rule) (row : List Str) (c : Str) : (someL rs row c).length ≤ rs.length := by
  cases row with
  | nil => exact Nat.zero_le _
  | cons n t =>
    unfold someL
    simp only
    rw [List.length_map]
    exact List.length_filter_le _ _
theorem byLs_dead {rs : List Rule} {o : Row?} {z : Str} {i c : Nat} {r : List Str} (h : ((signsOf z).take i).foldl (stepL rs) o = some r) (hc : z.cps[i]? = some c) (h2 : stepL rs (some r) ⟨#[c]⟩ = none) : byLs rs o z = none := by
  unfold byLs
  have h3 := signs_at hc
  have h4 : (signsOf z).drop i = ⟨#[c]⟩ :: (signsOf z).drop (i + 1) := by
    obtain ⟨hl, hx⟩ := List.getElem?_eq_some_iff.mp h3
    rw [List.drop_eq_getElem_cons hl, hx]
  rw [← List.take_append_drop i (signsOf z), List.foldl_append, h, h4, List.foldl_cons, h2]
  exact stepL_none rs _
theorem dp_lists {K : PySem.W.Frag} {H : Hp} {D : Addr} {us : List Addr} {rows : List (List Str)} (h : H D = some (.lst (us.map V.ref))) (hp : Paired (fun u (r : List Str) => H u = some (.lst (r.map V.str))) us rows) : Dp K H (.ref D) (eL eSs rows) :=
  .lst (SqL.of h) (dpAll_paired (e := eSs) (fun _ _ => dp_Ss) hp)
theorem enc_Rows : Enc (eL eSs) := enc_L enc_Ss
theorem dep_Rows : Dep (eL eSs) 2 := dep_L dep_Ss
theorem RowO.but {H H' : Hp} {s : Addr} {n : Nat} {v : V} {o : Row?} (h : RowO H v o) (w : WellAt H s n) (b : But s H H') : RowO H' v o := by
  rcases h with h | ⟨a, row, h1, h2, h3⟩
  · exact .inl h
  · exact .inr ⟨a, row, h1, h2, b _ _ (w.ne_strs h3) h3⟩
theorem trios_but {H H' : Hp} {s l : Addr} {n : Nat} {rs : List Rule} (h : TriosAt H l rs) (w : WellAt H s n) (b : But s H H') : TriosAt H' l rs := by
  obtain ⟨ts, h1, h2⟩ := h
  exact ⟨ts, b _ _ (w.ne_refs h1) h1, Paired.mapP h2 fun _ _ ⟨x, h3, h4⟩ => ⟨x, b _ _ (w.ne_tup h3) h3, b _ _ (w.ne_strs h4) h4⟩⟩
theorem rowO_none {H : Hp} {v : V} {o : Row?} (h : RowO H v o) : decide (v = V.non) = decide (o = none) := by
  rcases h with ⟨rfl, rfl⟩ | ⟨a, row, rfl, rfl, _⟩
  · rfl
  · rw [decide_eq_false (fun e => by cases e), decide_eq_false (fun e => by cases e)]
theorem ends_rules {names : List Str} {rs : List Rule} (h : EndsR names rs) {n : Str} (hn : n ∈ names) : rulesOf rs n ≠ [] := by
  obtain ⟨v, k, d⟩ := h n hn
  cases k with
  | zero => exact d.elim
  | succ k =>
    obtain ⟨row, hr, _⟩ := d
    unfold edR at hr
    obtain ⟨r, hr1, hr2⟩ := List.mem_map.mp hr
    intro e
    have e1 : r.1 = n := congrArg Prod.fst hr2
    have : r.2 ∈ rulesOf rs n := mem_rulesOf.mpr (by rw [← e1]; exact hr1)
    rw [e] at this
    cases this
/-- a list of texts, turned about -/
def unS : V → Str
  | .str x => x
  | _ => ""
theorem perm_strs {ys : List V} {xs : List Str} (h : ys.Perm (xs.map V.str)) : ∃ zs : List Str, ys = zs.map V.str ∧ zs.Perm xs := by
  refine ⟨ys.map unS, ?_, ?_⟩
  · rw [List.map_map]
    have : ∀ y ∈ ys, (V.str ∘ unS) y = y := fun y hy => by
      obtain ⟨x, _, rfl⟩ := List.mem_map.mp (h.mem_iff.mp hy)
      rfl
    exact (List.map_congr_left this).trans (List.map_id _) |>.symm
  · have := h.map unS
    rw [List.map_map] at this
    rwa [show (unS ∘ V.str) = id from rfl, List.map_id] at this
theorem byLs1 (rs : List Rule) (o : Row?) {c : Str} (h : c.length = 1) : ∃ d, byLs rs o c = stepL rs o d := by
  have h1 := signs_len c
  rw [h] at h1
  unfold byLs
  match h2 : signsOf c, h1 with
  | [d], _ => exact ⟨d, rfl⟩
theorem GoodR.hin {names : List Str} {rs : List Rule} (h : GoodR names rs) : ∀ r ∈ rs, r.1 ∈ names ∧ ∀ x ∈ r.2.2, x ∈ names := fun r hr => ⟨(h.ok r hr).1, (h.ok r hr).2.2.2⟩
theorem WellAt.ne_ins {H : Hp} {s a : Addr} {n : Nat} {C dx : Addr} {fs : List (Str × V)} (h : WellAt H s n) (e : H a = Option.some (HO.ins C dx fs)) : a ≠ s := fun q => by
  obtain ⟨_, _, _, h1, _⟩ := h
  rw [q, h1] at e
  cases e
theorem GramAt.but {C : Addr} {H H' : Hp} {g s : Addr} {n : Nat} {names : List Str} {rs : List Rule} (h : GramAt C H g names rs) (w : WellAt H s n) (b : But s H H') : GramAt C H' g names rs := by
  obtain ⟨dx, kn, st, od, ls, h1, h2, h3, h4⟩ := h.ex
  refine ⟨dx, kn, st, od, ls, b _ _ (w.ne_ins h1) h1, b _ _ (w.ne_strs h2) h2, ⟨b _ _ (w.ne_dk h3.1) h3.1, Paired.mapP h3.2.1 fun _ _ ⟨ts, h5, h6⟩ => ⟨ts, b _ _ (w.ne_refs h5) h5, Paired.mapP h6 fun _ _ ⟨x, h7, h8⟩ => ⟨x, b _ _ (w.ne_tup h7) h7, b _ _ (w.ne_strs h8) h8⟩⟩, h3.2.2⟩, b _ _ (w.ne_strs h4) h4⟩
theorem areNames_nd {xs : List Str} (e : areNames xs = true) : xs.Nodup := by
  unfold areNames at e
  simp only [Bool.and_eq_true, decide_eq_true_eq] at e
  exact e.1.2
theorem areNames_l6 {xs : List Str} (e : areNames xs = true) : xs.length ≤ 6 := by
  unfold areNames at e
  simp only [Bool.and_eq_true, decide_eq_true_eq] at e
  exact e.1.1.2
theorem GoodR.short {names : List Str} {rs : List Rule} (h : GoodR names rs) (hl : rs.length ≤ 100) : ShortR rs := ⟨hl, fun r hr => by have := (h.ok r hr).2.2.1; omega⟩
end SG
/-! heaps of which a table of code objects grows -/
namespace SG
open PySem PySem.Spec PyProof.Rows L2 LamX
/-- no object, or a table -/
def FreeN (H : Hp) (p : Addr) : Prop := ∀ o, H p = some o → ∃ ps, o = .tbl ps
theorem _root_.LamX.ExtN.fr {H H' : Hp} (e : ExtN H H') {p : Addr} (h : H' p = none) : FreeN H p := fun o ho => by
  cases o with
  | tbl ps => exact ⟨ps, rfl⟩
  | _ => rw [e _ _ ho fun ps z => by cases z] at h; cases h
theorem FreeN.of {H : Hp} {p : Addr} (h : H p = none) : FreeN H p := fun o ho => by rw [h] at ho; cases ho
theorem _root_.LamX.ExtN.same {H H1 H2 : Hp} (a : ExtN H H1) (b : Same H1 H2) : ExtN H H2 := fun x o h n => b _ _ (a x o h n)
theorem extN_same {H H' : Hp} (b : Same H H') : ExtN H H' := fun x o h _ => b _ _ h
theorem _root_.LamX.ExtN.mut {H H' : Hp} {p : Addr} (e : ExtN H H') (f : FreeN H p) (u : HO) : ExtN H (upd H' p u) := fun a o h n => by
  rw [upd_ne (fun z => by obtain ⟨ps, q⟩ := f o (z ▸ h); exact n ps q)]
  exact e a o h n
theorem _root_.LamX.ExtN.lst {H H' : Hp} (e : ExtN H H') {a : Addr} {xs : List V} (h : H a = some (.lst xs)) : H' a = some (.lst xs) := e _ _ h fun ps z => by cases z
theorem _root_.LamX.ExtN.tup {H H' : Hp} (e : ExtN H H') {a : Addr} {xs : List V} (h : H a = some (.tup xs)) : H' a = some (.tup xs) := e _ _ h fun ps z => by cases z
theorem _root_.LamX.ExtN.dk {H H' : Hp} (e : ExtN H H') {a : Addr} {xs : List (Key × V)} (h : H a = some (.dK xs)) : H' a = some (.dK xs) := e _ _ h fun ps z => by cases z
theorem _root_.LamX.ExtN.ins {H H' : Hp} (e : ExtN H H') {a C dx : Addr} {fs : List (Str × V)} (h : H a = some (HO.ins C dx fs)) : H' a = some (HO.ins C dx fs) := e _ _ h fun ps z => by cases z
theorem GramAt.ext {C : Addr} {H H' : Hp} {g : Addr} {names : List Str} {rs : List Rule} (h : GramAt C H g names rs) (e : ExtN H H') : GramAt C H' g names rs := by
  obtain ⟨dx, kn, st, od, ls, h1, h2, h3, h4⟩ := h.ex
  exact ⟨dx, kn, st, od, ls, e.ins h1, e.lst h2, ⟨e.dk h3.1, Paired.mapP h3.2.1 fun _ _ ⟨ts, h5, h6⟩ => ⟨ts, e.lst h5, Paired.mapP h6 fun _ _ ⟨x, h7, h8⟩ => ⟨x, e.tup h7, e.lst h8⟩⟩, h3.2.2⟩, e.lst h4⟩
/-- a list is written -/
theorem tabs_lst {T : List (Addr × Str)} {H : Hp} {p : Addr} {xs : List V} (t : Tabs T H) (h : H p = some (.lst xs)) (u : HO) : Tabs T (upd H p u) := fun q hq => by
  obtain ⟨ps, h1, h2, h3⟩ := t q hq
  refine ⟨ps, by rw [upd_ne (fun z => by rw [z, h] at h1; cases h1)]; exact h1, h2, fun pos cv hc => ?_⟩
  obtain ⟨c, e1, e2⟩ := h3 pos cv hc
  refine ⟨c, e1, ?_⟩
  rw [upd_ne (fun z => by
    rw [z, h] at e2
    have e2 := Option.some.inj e2
    unfold CodeO at e2
    cases e2)]
  exact e2
theorem tabs_same {T : List (Addr × Str)} {H H' : Hp} (t : Tabs T H) (e : Same H H') : Tabs T H' := t.ext e
theorem trios_ext {H H' : Hp} {l : Addr} {rs : List Rule} (h : TriosAt H l rs) (e : ExtN H H') : TriosAt H' l rs := by
  obtain ⟨ts, h1, h2⟩ := h
  exact ⟨ts, e.lst h1, Paired.mapP h2 fun _ _ ⟨x, h3, h4⟩ => ⟨x, e.tup h3, e.lst h4⟩⟩
/-- a new list of new rows; a table may have grown -/
def RowsT (H H' : Hp) (p : Addr) (ps : List Step) : Prop := ∃ ts : List Addr, H' p = some (.lst (ts.map V.ref)) ∧ FreeN H p ∧ Paired (RuleAt H') ts ps
theorem RuleAt.ext {H H' : Hp} (e : ExtN H H') {t : Addr} {p : Step} (h : RuleAt H t p) : RuleAt H' t p := by
  obtain ⟨w, h1, h2⟩ := h
  exact ⟨w, e.tup h1, e.lst h2⟩
theorem zip_in {α : Type} {R : Addr → α → Prop} : ∀ {ts : List Addr} {ps : List α}, Paired R ts ps → ∀ {t : Addr} {p : α}, (t, p) ∈ ts.zip ps → R t p
  | _, _, .nil, _, _, h => by cases h
  | _, _, .cons h1 k, _, _, h => by
    rw [List.zip_cons_cons] at h
    rcases List.mem_cons.mp h with h | h
    · cases h
      exact h1
    · exact zip_in k h
theorem zip_refs {α : Type} : ∀ {us : List Addr} {ps : List α} {p : V × α}, p ∈ (us.map V.ref).zip ps → ∃ u, p.1 = V.ref u ∧ (u, p.2) ∈ us.zip ps
  | [], _, _, h => by simp at h
  | _ :: _, [], _, h => by simp at h
  | u :: us, b :: ps, p, h => by
    rw [List.map_cons, List.zip_cons_cons] at h
    rcases List.mem_cons.mp h with rfl | h
    · exact ⟨u, rfl, List.mem_cons_self⟩
    · obtain ⟨v, e, m⟩ := zip_refs h
      exact ⟨v, e, List.mem_cons_of_mem _ m⟩
theorem refs_of {α : Type} {R : Addr → α → Prop} : ∀ {l : List (V × α)}, (∀ p ∈ l, ∃ u, p.1 = V.ref u ∧ R u p.2) → ∃ ts : List Addr, l.map (·.1) = ts.map V.ref ∧ Paired R ts (l.map (·.2))
  | [], _ => ⟨[], rfl, .nil⟩
  | p :: l, h => by
    obtain ⟨ts, e, hp⟩ := refs_of (l := l) fun q hq => h q (List.mem_cons_of_mem _ hq)
    obtain ⟨u, e1, r⟩ := h p List.mem_cons_self
    exact ⟨u :: ts, by rw [List.map_cons, e1, e, List.map_cons], .cons r hp⟩
theorem sKey_rows {α : Type} {R : Addr → α → Prop} {key : α → PyData} {us : List Addr} {ps : List α} (hp : Paired R us ps) : ∃ ts : List Addr, sKey key (us.map V.ref) ps = ts.map V.ref ∧ Paired R ts (ps.mergeSort (PySem.W.dataLe false key)) := by
  have hl := paired_len hp
  have h1 : (((us.map V.ref).zip ps).mergeSort (PySem.W.dataLe false fun p : V × α => key p.2)).map (·.2) = ps.mergeSort (PySem.W.dataLe false key) := by
    have h2 := PySem.W.sort_maps (r := PySem.W.dataLe false (fun p : V × α => key p.2)) (s := PySem.W.dataLe false key) (Prod.snd : V × α → α) (l := (us.map V.ref).zip ps) (fun a _ b _ => rfl)
    rw [List.map_snd_zip (by rw [List.length_map]; omega)] at h2
    exact h2
  obtain ⟨ts, e, h3⟩ := refs_of (R := R) (l := ((us.map V.ref).zip ps).mergeSort (PySem.W.dataLe false fun p : V × α => key p.2)) fun p hpm => by
    obtain ⟨u, e1, m⟩ := zip_refs ((List.mergeSort_perm _ _).mem_iff.mp hpm)
    exact ⟨u, e1, zip_in hp m⟩
  rw [h1] at h3
  exact ⟨ts, e, h3⟩
/-- a def by its body; its code object is told -/
theorem fun_okC {P : Program} {w : World} {K : PySem.W.Frag} {mg : Str → Option Value} {base : Heap} {x qual : Str} {st : Stmt} {f : Addr} {fd : FuncData} {N ps : List Str} {k : Nat} {sp : Sp} (F : Fun K x qual st f fd) (S : FnScope N ps (defScope st)) (len : ∀ vs H Q E, sp vs H Q E → vs.length = ps.length)
    (body : ∀ (cdv : Value), fd.code = cdv → ∀ (A : Around) (outer : List Env) (s : Shared) (H : Hp) (vs : List V) (Q : VK) (E : XK), Room k (A.deeper (envOfC qual (defScope st) s.heap.objs.size f cdv)) → sp vs H Q E →
      ∃ t, PSs (cxOf CX0 P w K mg base N qual (defScope st) f cdv A outer s H E).nox (defBody st) t ∧ t { nx := fun _ H' => Q .non H', rt := Q } (start N vs) H) : FnOk P w K mg base CX0 (k + 1) f fd ps sp := by
  obtain ⟨_, _, _, _, _, _, cdv, _, _, efd, look, coded⟩ := F.ex
  subst efd
  refine fn_of look coded S len ?_
  intro A outer s H vs Q E room told
  obtain ⟨t, runs, q⟩ := body cdv rfl A outer s H vs Q E room told
  exact ⟨t, runs.nox, q⟩
/-- the table of the def at f2 is empty; its code object stands -/
def OwnTab2 (K : PySem.W.Frag) (f2 : Addr) (h : Heap) : Prop := ∀ (c : Addr) (o : Obj) (fd : FuncData), K.lookup f2 = some o → o.data = .func fd → fd.code = .ref c →
  ∃ P, PySem.W.CodeHd h c P ∧ h.get? P = some { cls := .none, data := .fields #[] } ∧ ∀ (e : Value) (dd : Option Addr) (vs : Array Value) (sl : Array (Option Value)), K.lookup c = some ⟨e, dd, .fields vs, sl⟩ → vs[11]? = some (.ref P)
/-- the end, where a def of the program's holds a lambda -/
theorem walk_own2 {l : PySem.W.OpenLaw} {n k : Nat} {q : Program} {loose : List Str} {XP : (Str → Option Value) → Heap → Prop} {YP : World → Heap → Prop} {d : DefRec} {K : Params → PySem.W.Frag} {CX : World → CXT} {x n2 : Str} (hn : l.most = some n) (hn2 : n ≤ sizeLine) (hdf : d.params.defaults = []) (hr : Room k callerA) (hrec : ((recsOf q).any fun e => e.name == n2) = true) (hY : ∀ (w : World) (h : Heap), YP w h → (K w.params).In h) (F : ∀ (w : World) (mg : Str → Option Value) (fa : Addr) (h : Heap), YP w h → (K w.params).In h → h.Ns mainGlobals mg → mg d.name = some (.ref fa) → (∀ f2, mg n2 = some (.ref f2) → OwnTab2 (K w.params) f2 h) → LawAtS l w (K w.params) (CX w) k n x mg fa h) (hCX : ∀ (w : World) (H : Hp) (s : Shared) (e : Value) (s' : Shared), CX w [] H s (fun _ _ _ => False) e s' → False) : PySem.W.WalkO q loose XP YP l.row.toRowW d [] (fun f vs => PySem.call f vs) := by
  refine Att.attach_callB hn hdf ?_
  intro w s₀ s₁ mg mb fa o pm cd doc a vs ns G Y ho hd hcd hmg hobj hints hlen hbits hgens
  have KX := hY w _ Y
  have tabs : ∀ f2, mg n2 = some (.ref f2) → OwnTab2 (K w.params) f2 s₁.heap := by
    intro f2 hm2 c o1 fd1 k1 k2 k3
    obtain ⟨dL, mL, nL⟩ := List.any_eq_true.mp hrec
    obtain ⟨a', o', fd', c', P', g1, g2, g3, g4, g5, g6⟩ := G.T.tab dL mL
    rw [show dL.name = n2 from beq_iff_eq.mp nL, hm2] at g1
    cases g1
    rw [KX _ _ k1] at g2
    cases g2
    rw [k2] at g3
    cases g3
    rw [k3] at g4
    cases g4
    refine ⟨P', PySem.W.CodeHd.of g5 g6, g6.2, fun e dd vs sl k4 => ?_⟩
    obtain ⟨⟨oc, vc, t1, _, t3, t4⟩, tP⟩ := g6
    rw [KX _ _ k4] at t1
    cases t1
    cases t3
    exact t4
  obtain ⟨fd, cs, sp, b1, b2, b3, b4, b5, b6⟩ := F w mg fa _ Y KX G.T.g hmg tabs
  refine law_callTs KX G.T.g G.T.b G.T.builtins G.T.nolimit hgens b1 b2 b3 G.T.bmain hobj hints (Nat.le_trans hlen hn2) hr b6 b4 ?_ ?_
  · exact fun H hH hS => b5 H a ns hlen hbits hH hS
  · exact fun H e s' => hCX w H s₁ e s'
end SG
/-! sorted(xs, key=lambda x: d[x]), d a dict of the def that the lambda stands in -/
namespace SG
open PySem PySem.Spec PyProof.Rows L2 LamX
/-- a lambda's scope: one name of its own, one free -/
structure LamQ (sc scope : Scope) (x y : Str) : Prop where
  kind : scope.kind = .function
  co : scope.isCoroutine = false
  gen : scope.isGenerator = false
  cell : ∀ z ∈ scope.names, z.2 ≠ .cell
  loc : scope.names.lookup x = some .local
  fr : scope.names.lookup y = some .free
  only : ∀ z ∈ scope.names, z.2 = .free → z.1 = y
  vis : sc.names.lookup y = some .cell ∨ sc.names.lookup y = some .free
/-- by numbers, stable -/
def ksort (f : Str → Int) (xs : List Str) : List Str := xs.mergeSort fun a b => decide (f a ≤ f b)
theorem ksort_perm (f : Str → Int) (xs : List Str) : (ksort f xs).Perm xs := List.mergeSort_perm _ _
theorem ksort_pair (f : Str → Int) (xs : List Str) : (ksort f xs).Pairwise fun a b => f a ≤ f b := by
  have h := List.pairwise_mergeSort (le := fun a b => decide (f a ≤ f b)) (fun a b c h1 h2 => by rw [decide_eq_true_eq] at *; omega) (fun a b => by rw [Bool.or_eq_true, decide_eq_true_eq, decide_eq_true_eq]; omega) xs
  exact h.imp fun h => of_decide_eq_true h
theorem ksort_congr {f g : Str → Int} {xs : List Str} (h : ∀ x ∈ xs, f x = g x) : ksort f xs = ksort g xs := by
  have := PySem.W.sort_maps (r := fun a b => decide (f a ≤ f b)) (s := fun a b => decide (g a ≤ g b)) (fun x : Str => x) (l := xs) (fun a ha b hb => by rw [h a ha, h b hb])
  rw [List.map_id', List.map_id'] at this
  exact this
def tSortD (T : List (Addr × Str)) (K : PySem.W.Frag) (i : Nat) (te : TE) : TE := fun σ H Q => te σ H fun v H1 => Tabs T H1 ∧ ∃ (a d : Addr) (xs : List Str) (kvs : List (Key × V)) (f : Str → Int), v = .ref a ∧ SqL K H1 a (xs.map V.str) ∧ σ[i]? = some (some (.ref d)) ∧ H1 d = some (.dK kvs) ∧
  (∀ x ∈ xs, valV kvs (Sum.inr x : Key) = some (.int (f x))) ∧ ∀ H2 q, ExtN H1 H2 → Tabs T H2 → H2 q = none → Q (.ref q) (upd H2 q (.lst ((ksort f xs).map V.str)))
theorem zip_strs : ∀ xs : List Str, (xs.map V.str).zip xs = xs.map fun b => (V.str b, b)
  | [] => rfl
  | x :: r => by rw [List.map_cons, List.zip_cons_cons, zip_strs r]; rfl
theorem sKey_strsC (f : Str → Int) (xs : List Str) : sKey (fun b : Str => PyData.int (f b)) (xs.map V.str) xs = (ksort f xs).map V.str := by
  unfold sKey
  have h1 : ((xs.map V.str).zip xs).map (·.2) = xs := List.map_snd_zip (by rw [List.length_map]; exact Nat.le_refl _)
  rw [zip_strs]
  have h4 := PySem.W.sort_maps (r := fun a b => decide (f a ≤ f b)) (s := PySem.W.dataLe false fun p : V × Str => PyData.int (f p.2)) (fun b : Str => (V.str b, b)) (l := xs) (fun a _ b _ => by
    rw [PySem.W.dataLe_int fun p : V × Str => f p.2])
  rw [← h4, List.map_map]
  rfl
theorem alk_ints (xs : List Int) : PySem.W.AllAlike (xs.map PyData.int) := PySem.W.AllAlike.of fun _ _ => by rw [PySem.W.alike]
variable {X : Cx}
theorem pe_sortKeyD {T : List (Addr × Str)} {c P : Addr} {x y : Str} {i : Nat} {e : Expr} {te : TE} {params : Arguments} {scope : Scope} {p lpos kpos pos p1 p2 p3 : Pos}
    (hg : Gl X "sorted") (hm : X.mg "sorted" = none) (he : PE X e te) (TB : TabB X.base X.mg c P) (hcode : X.env.code = .ref c) (hmT : (P, X.env.qual ++ "<lambda>") ∈ T) (hu : ∀ p ∈ T, p.1 = P → p.2 = X.env.qual ++ "<lambda>") (hr : Room 3 X.A) (L : LamQ X.env.scope scope x y) (hN : X.N[i]? = some y)
    (hdef : defaultsOf params X.env = ([], [])) (hbind : ∀ (q : Str) (cl : List (Str × Addr)) (pm cv ctv v : Value), bindArgs (PySem.W.kla_fn "<lambda>" q params (.Subscript (.Name y p1) (.Name x p2) p3) scope cl pm cv ctv) ⟨[v], []⟩ = pure [(x, v)])
    (hsl : NoSl (.Name x p2)) (hdx : (x == ("__debug__" : Str)) = false) (hdy : (y == ("__debug__" : Str)) = false) (hcy : (y == ("__classdict__" : Str)) = false)
    (hs : starEach [e] X.env = (false, eval e X.env) :: starEach [] X.env := by rfl) :
    PE X (.Call (.Name "sorted" p) [e] [⟨some "key", .Lambda params (.Subscript (.Name y p1) (.Name x p2) p3) scope lpos, kpos⟩] pos) (tSortD T X.K i te) := by
  refine ⟨fun pins s σ H Q I h => ?_⟩
  refine wpAny_Call_Name_kw (ld_blt I hg hm boot_sorted ?_ (by decide) (by decide))
  refine PyProof.Rows.callWith_kw ?_ (by rw [hs]; rfl) (by rw [hs]; rfl) (by rfl) (by rfl)
  rw [hs]
  show wpAny _ _ (spliced ((false, eval e X.env) :: backTo pos (starEach [] X.env))) _ _ s
  refine Calls.spliced_cons (thn (he.run pins s σ H _ I h) fun u s1 ⟨v, H1, I1, r1, hT, a, d, xs, kvs, f, ev, hq, hσ, hd, hkv, q⟩ => ?_)
  refine Calls.spliced_nil ?_
  subst ev
  obtain rfl : u = Value.ref a := r1
  have hfree : ∀ z ∈ scope.names, z.2 = .free → ∃ c, X.env.cells.lookup z.1 = some c := fun z hz e => by
    rw [L.only z hz e]
    exact I.ok.has _ L.vis
  show wpAny _ _ (evalAll ((do let v ← eval (.Lambda params (.Subscript (.Name y p1) (.Name x p2) p3) scope lpos) X.env; standAt pos; pure v) :: [])) _ _ s1
  refine wpAny_evalAll_cons (wpAny_bind (lam_make2 I1 TB hcode hmT hu hT hdef hfree fun fl c' pm ctv H2 s2 I2 eN T2 hf hfn hfr hco => wpAny_bind (wpAny_standAt (wpAny_pure ?_))))
  refine wpAny_evalAll_nil ?_
  show wpAny _ _ (call (.builtin "sorted") [.ref a] [(Str.ofString "key", .ref fl)]) _ _ s2
  have hq2 := extN_seq eN hq
  have hd2 := eN.dk hd
  obtain ⟨its, rv, hl, hz⟩ := I2.list hq2
  have hE := each_zip (R := fun (_ : Heap) (u : Value) (b : Str) => b ∈ xs ∧ ∃ t, u = .str b t) (h := s2.heap) (ps := xs) rv (by rw [List.length_map]) fun z u b hm ru => by
    have hb : (z, b) ∈ xs.map fun b => (V.str b, b) := by
      rw [← zip_strs]
      exact hm
    obtain ⟨b2, hb2, e2⟩ := List.mem_map.mp hb
    obtain ⟨rfl, rfl⟩ := Prod.mk.inj e2
    obtain ⟨t, rfl⟩ := ru
    exact ⟨hb2, t, rfl⟩
  have hmap : ((xs.map V.str).zip xs).map (fun p : V × Str => PyData.int (f p.2)) = (xs.map f).map PyData.int := by
    have h1 : ((xs.map V.str).zip xs).map Prod.snd = xs := List.map_snd_zip (by rw [List.length_map]; exact Nat.le_refl _)
    show ((xs.map V.str).zip xs).map ((fun b => PyData.int (f b)) ∘ Prod.snd) = _
    rw [← List.map_map, h1, List.map_map]
    rfl
  have hun := hr.un
  -- the cell of y
  obtain ⟨cy, hcy2⟩ : ∃ c, (cloFrom X.env.cells scope.names []).lookup y = some c := mem_lookup (cloFrom_has (cells := X.env.cells) (acc := []) (PySem.mem_of_lookup L.fr))
  have hcy3 : X.env.cells.lookup y = some cy := NdefX.clo_cm hfree hcy2
  have hcell : s2.heap.IsCell cy (some (.ref d)) := by
    obtain ⟨m, hn, hl⟩ := I2.loc
    obtain ⟨w', r, qq⟩ := hl i y _ hN hσ (L.vis.elim (fun k => .inr (.inl k)) (fun k => .inr (.inr k)))
    obtain rfl : w' = Value.ref d := r
    rcases qq with ⟨k', _⟩ | ⟨_, c3, e', z⟩
    · have k' : X.env.scope.names.lookup y = some .local := k'
      rcases L.vis with k2 | k2 <;> rw [show X.env.scope.names.lookup y = _ from k2] at k' <;> cases k'
    · rw [hcy3] at e'
      cases e'
      exact z
  refine PySem.W.sorted_key_data (b := false) (fun p : V × Str => PyData.int (f p.2)) hl.isList hE (by rw [hmap]; exact alk_ints _) (by rw [hmap]; exact PySem.W.Sortable.others fun b => ⟨(fun h => by cases h), (fun xs h => by cases h)⟩) (by rw [← hE.length, ← rv.length]; exact hz) (fun p hp => by rw [PyData.depth]; omega) (ksk_s1 _ _) (fun _ => ksk_l1 _ _) (fun _ => ksk_t1 _ _) (fun v p hR hp h tk kp => ?_) fun out n h' tk kp fresh hD hlen' eo => ?_
  · have hdp := hr.dp
    have hCR : h.CodeRec (.ref c') (X.env.qual ++ "<lambda>") := by
      obtain ⟨⟨oc, vs, t, e1, e2, e3⟩, _⟩ := (show ObjOk X.prog X.w H2 s2.heap c' (CodeO c' (X.env.qual ++ "<lambda>")) from I2.hok c' _ hco)
      exact ⟨c', oc, vs, t, rfl, kp _ _ e1, e2, e3⟩
    refine wpAny_call (codeAny_mono (R := fun r s' => ∃ u, r = .ok (.ret u) ∧ PySem.W.KeyPure (PyData.int (f p.2)) { s2 with heap := h, toks := tk } u s') ?_ fun r s' hq' => ?_)
    · refine PySem.W.kla_callFunE (show X.A.in1.in1.depth < recursionLimit from by show X.A.depth < recursionLimit; omega) (kp _ _ hf) rfl L.co L.gen rfl hCR ?_
      rw [hbind]
      refine wpAny_pure (wpAny_newFunctionEnv L.cell (fun y hy => by rw [List.mem_singleton.mp hy]; exact L.loc) (fun h₁ hns hsb => ⟨((I2.nolimit).keeps kp).fresh _ hsb, ?_⟩) L.kind)
      have hk1 : ∀ b o, h.get? b = some o → h₁.get? b = some o := fun b o e => hsb.extBut b o (Nat.ne_of_lt (Heap.lt_size e)) (Heap.get?_push_of_some _ e)
      obtain ⟨_, hxm, t, rfl⟩ := hR
      refine PySem.W.kla_codeExpr ?_
      have I3 : ∀ t', Inv X pins σ H2 { s2 with heap := h₁, toks := t' } := fun t' => I2.kept fun b o e => hk1 b o (kp b o e)
      have cell1 : h₁.IsCell cy (some (.ref d)) := by
        obtain ⟨o, ho, hdd⟩ := hcell
        exact ⟨o, hk1 _ _ (kp _ _ ho), hdd⟩
      refine subD_of PySem.F.slot_dict_getitem.lookup hsl (wpAny_Name (wpAny_loadName_free L.kind L.fr hcy2 cell1 ?_ hcy) hdy)
      refine wpAny_Name (wpAny_loadName_local L.kind L.loc hns (by simp [List.lookup]; rfl) ?_) hdx
      have g : DGet H2 d (kV (Sum.inr p.2 : Key)) (some (.int (f p.2))) := by
        rw [← hkv p.2 hxm]
        exact DGet.k hd2
      refine ⟨dict_typeIs (I3 _) g, ?_⟩
      obtain ⟨z, hdz, vs, rel, dd⟩ := dk_rd (I3 _).hok (.inl hd2)
      obtain ⟨w', hw, rw'⟩ := RelO.some_of (v := .int (f p.2)) (o := valueAt vs (Sum.inr p.2 : Key)) (by rw [← hkv p.2 hxm]; exact rel.val _)
      obtain ⟨t2, rfl⟩ := rw'
      refine wpAny_getItem_of (kV_is (show RelV (kV (Sum.inr p.2 : Key)) _ from ⟨_, rfl⟩)) dd.mapOf hw ?_
      exact ⟨_, rfl, h₁, _, rfl, hk1, .int _ _⟩
    · obtain ⟨u, rfl, hk⟩ := hq'
      exact hk
  · have hout := vals_each (R := fun (u : Value) (b : Str) => b ∈ xs ∧ ∃ t, u = .str b t) eo
    have e5 : ((((xs.map V.str).zip xs).mergeSort (PySem.W.dataLe false fun p : V × Str => PyData.int (f p.2))).map (·.1)) = (ksort f xs).map V.str := sKey_strsC f xs
    rw [e5] at hout
    have hl2 : ((ksort f xs).map V.str).length ≤ sizeLine := by
      rw [List.length_map] at hz
      rw [List.length_map, (ksort_perm f xs).length_eq]
      exact hz
    exact ⟨.ref _, upd H2 (s2.heap.objs.size + 1) (.lst ((ksort f xs).map V.str)), I2.laid (t' := tk) kp (Nat.le_succ _) ⟨hl2, out, n, hout, hD⟩, rfl, q H2 _ eN T2 (I2.hok.fresh (Nat.le_succ _))⟩
end SG
/-! a grammar whose names all come to nothing within twelve steps -/
namespace SG
open PySem PySem.Spec PyProof.Rows L2
structure GrW (names : List Str) (rs : List Rule) (wt : Str → Nat) : Prop where
  nd : names.Nodup
  ne : names ≠ []
  le : names.length ≤ 1000
  fin : ∀ n ∈ names, normW rs n = some (wt n)
  w12 : ∀ n ∈ names, wt n ≤ 12
  rin : ∀ r ∈ rs, r.1 ∈ names ∧ ∀ x ∈ r.2.2, x ∈ names
  sh : ShortR rs
theorem addW_wsum {rs : List Rule} {names : List Str} {wt : Str → Nat} (h : ∀ n ∈ names, normW rs n = some (wt n)) : ∀ {row : List Str}, (∀ x ∈ row, x ∈ names) → addW (normW rs) row = some (wsum wt row)
  | [], _ => rfl
  | n :: t, k => by rw [addW, h n (k n List.mem_cons_self), addW_wsum h fun x hx => k x (List.mem_cons_of_mem _ hx), wsum_cons]
theorem zip_le {wt : Str → Nat} {names : List Str} {rs : List Rule} (h : ∀ n ∈ names, normW rs n = some (wt n)) : ∀ {row : List Str} {vs : List Nat}, vs.length = row.length → (∀ x ∈ row, x ∈ names) → (∀ p ∈ row.zip vs, Der (edR rs) p.1 p.2) → wsum wt row ≤ vs.sum
  | [], [], _, _, _ => Nat.le_refl _
  | [], _ :: _, e, _, _ => by simp at e
  | _ :: _, [], e, _, _ => by simp at e
  | n :: t, v :: vs, e, k, d => by
    have h1 := (muW_some (h n (k n List.mem_cons_self))).2 v (d (n, v) List.mem_cons_self)
    have h2 := zip_le h (row := t) (vs := vs) (by simpa using e) (fun x hx => k x (List.mem_cons_of_mem _ hx)) fun p hp => d p (List.mem_cons_of_mem _ hp)
    rw [wsum_cons, List.sum_cons]
    omega
theorem mem_edR {rs : List Rule} {n : Str} {row : List Str} : (n, row) ∈ edR rs ↔ ∃ l, (n, l, row) ∈ rs := by
  unfold edR
  rw [List.mem_map]
  constructor
  · rintro ⟨r, hr, e⟩
    cases e
    exact ⟨r.2.1, hr⟩
  · rintro ⟨l, h⟩
    exact ⟨_, h, rfl⟩
/-- the names by rising norms -/
def ordW (names : List Str) (wt : Str → Nat) : List Str := ksort (fun n => (wt n : Int)) names
theorem ordW_perm (names : List Str) (wt : Str → Nat) : (ordW names wt).Perm names := ksort_perm _ _
theorem GrW.gw {names : List Str} {rs : List Rule} {wt : Str → Nat} (g : GrW names rs wt) : GW (ordW names wt) rs wt where
  nd := (ordW_perm names wt).nodup_iff.mpr g.nd
  srt := (ksort_pair _ _).imp fun h => by omega
  ne := fun h => g.ne (by
    have := (ordW_perm names wt).length_eq
    rw [h] at this
    exact List.length_eq_zero_iff.mp this.symm)
  rul := fun n hn p hp => by
    have hn := (ordW_perm names wt).mem_iff.mp hn
    have hr : (n, p.1, p.2) ∈ rs := mem_rulesOf.mp hp
    have hin := (g.rin _ hr).2
    refine ⟨fun x hx => (ordW_perm names wt).mem_iff.mpr (hin x hx), ?_⟩
    obtain ⟨v, e1, h1⟩ := muW_fix (E := edR rs) (e := (n, p.2)) (mem_edR.mpr ⟨_, hr⟩) (addW_wsum g.fin hin)
    have e2 : some v = some (wt n) := e1.symm.trans (g.fin n hn)
    have := Option.some.inj e2
    have h1 : v ≤ wsum wt p.2 + 1 := h1
    omega
  less := fun n hn => by
    have hn := (ordW_perm names wt).mem_iff.mp hn
    obtain ⟨⟨h, hd⟩, hmin⟩ := muW_some (g.fin n hn)
    cases h with
    | zero => exact hd.elim
    | succ h =>
      obtain ⟨row, hr, vs, hl, hv, e⟩ := hd
      obtain ⟨l, hr⟩ := mem_edR.mp hr
      have hin := (g.rin _ hr).2
      have h1 := zip_le g.fin hl hin fun p hp => ⟨h, hv p hp⟩
      obtain ⟨v, e1, h2⟩ := muW_fix (E := edR rs) (e := (n, row)) (mem_edR.mpr ⟨_, hr⟩) (addW_wsum g.fin hin)
      have e2 : some v = some (wt n) := e1.symm.trans (g.fin n hn)
      have := Option.some.inj e2
      have h2 : v ≤ wsum wt row + 1 := h2
      refine ⟨(l, row), mem_rulesOf.mpr hr, ?_⟩
      show wsum wt row + 1 = wt n
      omega
theorem kvsW_int {names : List Str} {rs : List Rule} {wt : Str → Nat} (h : ∀ n ∈ names, normW rs n = some (wt n)) {x : Str} (hx : x ∈ names) : valV (kvsW names (normW rs)) (Sum.inr x : Key) = some (.int (wt x)) := by
  rw [kvsW_val hx, h x hx]
  rfl
theorem kvsW_snd {names : List Str} {rs : List Rule} {wt : Str → Nat} (h : ∀ n ∈ names, normW rs n = some (wt n)) : (kvsW names (normW rs)).map (·.2) = (names.map fun n => (wt n : Int)).map V.int := by
  unfold kvsW
  rw [List.map_map, List.map_map]
  refine List.map_congr_left fun n hn => ?_
  show optV (normW rs n) = _
  rw [h n hn]
  rfl
theorem outs_lenC {kb : KB} {c : Nat} (h0 : 1 ≤ c) (h : ∀ m ∈ kb, m.2.length ≤ c) : ∀ ns : List Str, (outs kb ns).length ≤ c * ns.length
  | [] => Nat.zero_le _
  | n :: r => by
    rw [outs_cons, List.length_append, List.length_cons, Nat.mul_succ]
    have h2 := outs_lenC h0 h r
    have h1 : (mk kb n).length ≤ c := by
      rcases mk_cases kb n with ⟨_, e⟩ | ⟨m, hm, e⟩
      · rw [e]; exact h0
      · rw [e]; exact h _ hm
    omega
theorem BInv.len {bag : Bool} {names : List Str} {rs : List Rule} {wt : Str → Nat} {kb : KB} (g : GrW names rs wt) (b : BInv bag (ordW names wt) wt kb) : ∀ m ∈ kb, m.2.length ≤ 12 := fun m hm => by
  obtain ⟨h1, h2, h3, _⟩ := b.good m hm
  have hk : m.1 ∈ ordW names wt := b.sub.subset (List.mem_map_of_mem hm)
  have hl := wsum_len (wt := wt) (xs := m.2) fun x hx => g.gw.pos (h2 x hx).1
  have := g.w12 m.1 ((ordW_perm names wt).mem_iff.mp hk)
  omega
end SG
/-! two dicts from texts to lists of texts: alike or not -/
namespace SG
open PySem PySem.Spec PyProof.Rows L2
def hitB (kb2 kb1 : KB) : Bool := kb1.all fun m => decide ((kb2.find? fun x => decide (x.1 = m.1)).map (·.2) = some m.2)
def eqKB (kb1 kb2 : KB) : Bool := decide (kb1.length = kb2.length) && hitB kb2 kb1
theorem hits_base {X : Cx} {pins : List (Addr × Obj)} {σ : L2.St} {H : Hp} {s : Shared} (I : Inv X pins σ H s) (hu : X.A.in1.units + 64 < cLine) {ls : List (Key × V)} {vb : List (Key × Value)} (rb : KV ls vb) {kb2 : KB} (hB2 : BaseAt H ls kb2) :
    ∀ {ks : List (Key × V)} {va : List (Key × Value)} {kb1 : KB}, KV ks va → BaseAt H ks kb1 → PySem.W.KeqHits X.A.in1 s vb va (hitB kb2 kb1) := by
  intro ks va kb1 ra hB
  unfold KV at ra
  induction ra generalizing kb1 with
  | nil =>
    cases hB
    exact .nil
  | @cons p q ps qs h t k =>
    unfold BaseAt at hB
    cases hB with
    | @cons _ m _ kb1' hb hB' =>
    obtain ⟨h1, h2⟩ := h
    obtain ⟨e1, a, e2, ha⟩ := hb
    obtain ⟨key, v⟩ := q
    have h1' : p.1 = key := h1
    have hk : key = (Sum.inr m.1 : Key) := by rw [← h1', e1]
    have hv : RelV (.ref a) v := by
      have h2 : RelV p.2 v := h2
      rw [e2] at h2
      exact h2
    have ih := k (kb1 := kb1') hB'
    rcases baseAt_val hB2 m.1 with ⟨g1, g2⟩ | ⟨b, ms, g1, g2, g3, _⟩
    · have rr : RelO none (valueAt vb (Sum.inr m.1 : Key)) := by rw [← g1]; exact rb.val _
      have e : hitB kb2 (m :: kb1') = false := by
        unfold hitB
        rw [List.all_cons, g2]
        simp
      rw [e, hk]
      exact .miss (RelO.none_of rr)
    · have rr : RelO (some (.ref b)) (valueAt vb (Sum.inr m.1 : Key)) := by rw [← g1]; exact rb.val _
      obtain ⟨y, hy, ry⟩ := rr.some_of
      obtain ⟨as, r1⟩ := Dp.reads I (eSs m.2) _ _ (dp_Ss ha) hv
      obtain ⟨bs, r2⟩ := Dp.reads I (eSs ms) _ _ (dp_Ss g2) ry
      have d1 : (eSs m.2).depth ≤ 1 := dep_Ss m.2
      have ea := SeqAt.eqAt_plain (eSs m.2) (eSs ms) X.A.in1 s _ _ _ _ r1 r2 (dp_plain _ _ (dp_Ss (K := X.K) ha)) (dp_plain _ _ (dp_Ss (K := X.K) g2)) (by omega)
      have e : hitB kb2 (m :: kb1') = (PyData.eqv (eSs m.2) (eSs ms) && hitB kb2 kb1') := by
        unfold hitB
        rw [List.all_cons, g3, enc_Ss]
        congr 1
        refine decide_eq_decide.mpr ⟨fun h => (Option.some.inj h).symm, fun h => by rw [h]⟩
      rw [e, hk]
      exact .hit hy ea ih
def rNeB : R2 := fun x y H Q => ∃ a b ks ls kb1 kb2, x = .ref a ∧ y = .ref b ∧ H a = some (.dK ks) ∧ H b = some (.dK ls) ∧ BaseAt H ks kb1 ∧ BaseAt H ls kb2 ∧ Q (.bl (!eqKB kb1 kb2)) H
theorem op_neB {X : Cx} (hu : X.A.units + 65 < cLine) : OpR X (compareOp .NotEq) rNeB := by
  intro pins s σ H x y v u Q I rx ry h
  obtain ⟨a, b, ks, ls, kb1, kb2, rfl, rfl, ea, eb, h1, h2, q⟩ := h
  obtain rfl : v = Value.ref a := rx
  obtain rfl : u = Value.ref b := ry
  obtain ⟨_, ya, va, ra, da⟩ := (show ObjOk X.prog X.w H s.heap a (.dK ks) from I.hok a _ ea)
  obtain ⟨_, yb, vb, rb, db⟩ := (show ObjOk X.prog X.w H s.heap b (.dK ls) from I.hok b _ eb)
  have hl : (va.length == vb.length) = decide (kb1.length = kb2.length) := by
    rw [← ra.length, ← rb.length, paired_len h1, paired_len h2]
    rfl
  have hu1 : X.A.in1.units + 64 < cLine := by show X.A.units + 1 + 64 < cLine; omega
  refine PySem.W.keq_ne (knd := mixKind X.prog X.w) (r := hitB kb2 kb1) ya yb da db (by omega) (fun _ => hits_base I hu1 rb h2 ra h1) ⟨.bl (!eqKB kb1 kb2), H, I, ?_, q⟩
  rw [hl]
  rfl
theorem eqKB_self {kb : KB} (nd : (kb.map (·.1)).Nodup) : eqKB kb kb = true := by
  unfold eqKB hitB
  rw [decide_eq_true rfl, Bool.true_and, List.all_eq_true]
  intro m hm
  obtain ⟨i, hi⟩ := List.mem_iff_getElem?.mp hm
  rw [find_nd nd hi]
  exact decide_eq_true rfl
/-- in one order of names: alike just where they are the same -/
theorem eqKB_iff {bag : Bool} {ord : List Str} {wt : Str → Nat} {kb1 kb2 : KB} (nd : ord.Nodup) (b1 : BInv bag ord wt kb1) (b2 : BInv bag ord wt kb2) : eqKB kb1 kb2 = decide (kb1 = kb2) := by
  by_cases c : kb1 = kb2
  · rw [decide_eq_true c, c]
    exact eqKB_self (b2.nd nd)
  · rw [decide_eq_false c]
    refine Bool.eq_false_iff.mpr fun h => c ?_
    unfold eqKB hitB at h
    rw [Bool.and_eq_true, decide_eq_true_eq, List.all_eq_true] at h
    obtain ⟨hl, ha⟩ := h
    have hit : ∀ m ∈ kb1, m ∈ kb2 := fun m hm => by
      have h1 := of_decide_eq_true (ha m hm)
      obtain ⟨x, hx, e⟩ := Option.map_eq_some_iff.mp h1
      have h2 := List.mem_of_find?_eq_some hx
      have h3 := List.find?_some hx
      have h3 : x.1 = m.1 := of_decide_eq_true h3
      rw [show m = x from Prod.ext h3.symm e.symm]
      exact h2
    have hk : ∀ x, x ∈ kb1.map (·.1) → x ∈ kb2.map (·.1) := fun x hx => by
      obtain ⟨m, hm, rfl⟩ := List.mem_map.mp hx
      exact List.mem_map_of_mem (hit m hm)
    have nd1 := b1.nd nd
    have nd2 := b2.nd nd
    have hk2 : ∀ x, x ∈ kb2.map (·.1) → x ∈ kb1.map (·.1) := fun x hx => by
      refine Classical.byContradiction fun hn => ?_
      have := nd_len (xs := x :: kb1.map (·.1)) (ys := kb2.map (·.1)) (List.nodup_cons.mpr ⟨hn, nd1⟩) fun y hy => by
        rcases List.mem_cons.mp hy with rfl | hy
        · exact hx
        · exact hk y hy
      rw [List.length_cons, List.length_map, List.length_map] at this
      omega
    refine kb_ext (sub_eq_of_mem nd b1.sub b2.sub fun x => ⟨hk x, hk2 x⟩) fun p hp q hq e => ?_
    have hp2 := hit p hp
    have e1 := mk_some nd2 (n := p.1) (m := p.2) hp2
    have e2 := mk_some nd2 (n := q.1) (m := q.2) hq
    rw [← e1, e, e2]
/-- the base at which the refining stops -/
def finB (bag : Bool) (rs : List Rule) (wt : Str → Nat) (ord : List Str) : KB := bs bag rs wt ord ord.length
theorem bs_stay {bag : Bool} {rs : List Rule} {wt : Str → Nat} {ord : List Str} {j : Nat} (h : bs bag rs wt ord (j + 1) = bs bag rs wt ord j) : ∀ k, bs bag rs wt ord (j + k) = bs bag rs wt ord j
  | 0 => rfl
  | k + 1 => by
    show refineR bag rs wt (bs bag rs wt ord (j + k)) ord = _
    rw [bs_stay h k]
    exact h
theorem finB_at {bag : Bool} {rs : List Rule} {wt : Str → Nat} {ord : List Str} {j : Nat} (hj : j ≤ ord.length) (h : bs bag rs wt ord (j + 1) = bs bag rs wt ord j) : bs bag rs wt ord j = finB bag rs wt ord := by
  have := bs_stay h (ord.length - j)
  rw [show j + (ord.length - j) = ord.length by omega] at this
  exact this.symm
theorem finB_inv {bag : Bool} {ord : List Str} {rs : List Rule} {wt : Str → Nat} (g : GW ord rs wt) : BInv bag ord wt (finB bag rs wt ord) := bs_inv g _
theorem finB_fix {bag : Bool} {ord : List Str} {rs : List Rule} {wt : Str → Nat} (g : GW ord rs wt) : refineR bag rs wt (finB bag rs wt ord) ord = finB bag rs wt ord := by
  obtain ⟨j, hj, h⟩ := bs_stop (bag := bag) g
  rw [← finB_at (by omega) h]
  exact h
end SG
/-! dicts whose keys are nested tuples -/
namespace SG
open PySem PySem.Spec PyProof.Rows L2
/-- an entry: the key, the tuple that it came as, the value -/
abbrev NEnt := NestedKey × Addr × V
abbrev REnt := NestedKey × Addr × Value
def EntR (x : NEnt) (y : REnt) : Prop := x.1 = y.1 ∧ x.2.1 = y.2.1 ∧ RelV x.2.2 y.2.2
def dictN (P : Program) (w : World) (d : Addr) (xs : List NEnt) : HO := .ext fun h => xs.length ≤ sizeLine ∧ (d == sysModules) = false ∧ (xs.map (·.1)).Nodup ∧ ∃ (ys : List REnt) (o : Obj) (es : Array DictEntry) (ep : Nat), Paired EntR xs ys ∧ h.get? d = some o ∧ o.ExactDict ∧ o.data = .dict es ep ∧ es.toList = ys.map (entryOfKey (nestedKind P w))
mutual
/-- the value is the key -/
inductive NK (H : Hp) : NestedKey → V → Prop
  | non : NK H .none .non
  | int (i : Int) : NK H (.num i) (.int i)
  | str (x : Str) : NK H (.text x) (.str x)
  | tup {a : Addr} {vs : List V} {ks : List NestedKey} : H a = some (.tup vs) → NKs H ks vs → NK H (.tup ks) (.ref a)
inductive NKs (H : Hp) : List NestedKey → List V → Prop
  | nil : NKs H [] []
  | cons {k : NestedKey} {v : V} {ks : List NestedKey} {vs : List V} : NK H k v → NKs H ks vs → NKs H (k :: ks) (v :: vs)
end
mutual
theorem nk_is {P : Program} {w : World} {H : Hp} {h : Heap} (ok : HOk P w H h) : ∀ (k : NestedKey) (v : V) (u : Value), NK H k v → RelV v u → NestedIs h k u
  | .none, _, u, .non, r => by
    obtain rfl : u = .none := r
    exact .none
  | .num i, _, u, .int _, r => by
    obtain ⟨t, rfl⟩ := r
    exact .int i t
  | .text x, _, u, .str _, r => by
    obtain ⟨t, rfl⟩ := r
    exact .text x t
  | .tup ks, _, u, .tup (a := a) (vs := vs) ha hs, r => by
    obtain rfl : u = Value.ref a := r
    obtain ⟨_, its, rv, o, e1, e2, n, e3⟩ := (show ObjOk P w H h a (.tup vs) from ok a _ ha)
    exact .tup e1 e2 e3 (nks_is ok ks vs its hs rv)
theorem nks_is {P : Program} {w : World} {H : Hp} {h : Heap} (ok : HOk P w H h) : ∀ (ks : List NestedKey) (vs : List V) (us : List Value), NKs H ks vs → Vals vs us → NestedAll h ks us
  | [], _, _, .nil, .nil => .nil
  | k :: ks, _, _, .cons h1 h2, .cons r t => .cons (nk_is ok k _ _ h1 r) (nks_is ok ks _ _ h2 t)
end
/-- the keys of a dict's entries stand -/
def KeysN (H : Hp) (xs : List NEnt) : Prop := ∀ x ∈ xs, NK H x.1 (.ref x.2.1) ∧ x.1.depth ≤ 8
theorem ents_of {P : Program} {w : World} {H : Hp} {h : Heap} (ok : HOk P w H h) : ∀ {xs : List NEnt} {ys : List REnt}, Paired EntR xs ys → KeysN H xs → ∀ y ∈ ys, (nestedKind P w).is h y.1 y.2.1
  | _, _, .nil, _, y, hy => by cases hy
  | x :: xs, y0 :: ys, .cons h1 h2, k, y, hy => by
    rcases List.mem_cons.mp hy with rfl | hy
    · obtain ⟨a, b⟩ := k x List.mem_cons_self
      obtain ⟨e1, e2, _⟩ := h1
      rw [← e1, ← e2]
      exact ⟨nk_is ok _ _ _ a rfl, b⟩
    · exact ents_of ok h2 (fun z hz => k z (List.mem_cons_of_mem _ hz)) y hy
theorem ents_keys : ∀ {xs : List NEnt} {ys : List REnt}, Paired EntR xs ys → xs.map (·.1) = ys.map (·.1)
  | _, _, .nil => rfl
  | _, _, .cons h t => by rw [List.map_cons, List.map_cons, h.1, ents_keys t]
def atN (xs : List NEnt) (k : NestedKey) : Option V := (xs.find? fun x => decide (x.1 = k)).map (·.2.2)
theorem ents_at (k : NestedKey) : ∀ {xs : List NEnt} {ys : List REnt}, Paired EntR xs ys → (atN xs k = none ∧ atKey ys k = none) ∨ ∃ v p, atN xs k = some v ∧ atKey ys k = some p ∧ RelV v p.2
  | _, _, .nil => .inl ⟨rfl, rfl⟩
  | x :: xs, y :: ys, .cons h t => by
    unfold atN atKey
    by_cases c : x.1 = k
    · have c2 : y.1 = k := h.1.symm.trans c
      refine .inr ⟨x.2.2, y.2, ?_, ?_, h.2.2⟩
      · rw [List.find?_cons_of_pos (by simpa using c)]; rfl
      · rw [List.find?_cons_of_pos (by simpa using c2)]; rfl
    · have c2 : ¬ y.1 = k := fun z => c (h.1.trans z)
      rw [List.find?_cons_of_neg (by simpa using c), List.find?_cons_of_neg (by simpa using c2)]
      exact ents_at k t
theorem dictN_of {P : Program} {w : World} {H : Hp} {h : Heap} (ok : HOk P w H h) {d : Addr} {xs : List NEnt} (e : H d = some (dictN P w d xs)) (k : KeysN H xs) : xs.length ≤ sizeLine ∧ (d == sysModules) = false ∧ ∃ ys : List REnt, Paired EntR xs ys ∧ h.DictOfH (nestedKind P w) d ys := by
  obtain ⟨⟨hz, hd, nd, ys, o, es, ep, hp, e1, e2, e3, e4⟩, _⟩ := (show ObjOk P w H h d (dictN P w d xs) from ok d _ e)
  exact ⟨hz, hd, ys, hp, o, es, ep, e1, e2, e3, e4, ents_of ok hp k, by rw [← ents_keys hp]; exact nd⟩
theorem dictN_ok {P : Program} {w : World} {H : Hp} {h : Heap} {d : Addr} {xs : List NEnt} {ys : List REnt} (hz : xs.length ≤ sizeLine) (hd : (d == sysModules) = false) (hp : Paired EntR xs ys) (e : h.DictOfH (nestedKind P w) d ys) : ObjOk P w H h d (dictN P w d xs) := by
  obtain ⟨o, es, ep, e1, e2, e3, e4, _, e6⟩ := e
  exact ⟨⟨hz, hd, by rw [ents_keys hp]; exact e6, ys, o, es, ep, hp, e1, e2, e3, e4⟩, ⟨o, e1⟩, fun h1 h2 ⟨a1, a2, a3, ys, o, es, ep, b1, b2, b3, b4, b5⟩ k => ⟨a1, a2, a3, ys, o, es, ep, b1, k _ b2, b3, b4, b5⟩⟩
def tDNewN (P : Program) (w : World) : TE := fun _ H Q => ∀ p, H p = none → Q (.ref p) (upd H p (dictN P w p []))
section
variable {X : Cx} {pos : Pos}
theorem pe_dnewN : PE X (.Dict [] [] pos) (tDNewN X.prog X.w) := by
  refine ⟨fun pins s σ H Q I told => ?_⟩
  have big : (s.heap.objs.size == sysModules) = false := beq_eq_false_iff_ne.mpr (Ne.symm (Nat.ne_of_lt I.big))
  refine wpAny_Dict_empty ⟨.ref s.heap.objs.size, _, I.laid (a := s.heap.objs.size) (o := dictN X.prog X.w s.heap.objs.size []) (t' := s.toks) ?_ (Nat.le_refl _) ?_, rfl, told _ (I.hok.fresh (Nat.le_refl _))⟩
  · exact fun _ _ q => Heap.get?_push_of_some _ q
  · exact dictN_ok (Nat.zero_le _) big .nil (Heap.DictOfH.new s.heap)
def rInN (P : Program) (w : World) (b : Bool) : R2 := fun x y H Q => ∃ (k : NestedKey) (a d : Addr) (xs : List NEnt), x = .ref a ∧ y = .ref d ∧ NK H k (.ref a) ∧ k.depth ≤ 8 ∧ H d = some (dictN P w d xs) ∧ KeysN H xs ∧ Q (.bl (xor b (atN xs k).isSome)) H
theorem isSome_ents {xs : List NEnt} {ys : List REnt} {k : NestedKey} (hp : Paired EntR xs ys) : (atKey ys k).isSome = (atN xs k).isSome := by
  rcases ents_at k hp with ⟨a, b⟩ | ⟨v, p, a, b, _⟩ <;> rw [a, b] <;> rfl
theorem op_inN (hu : X.A.units + 64 < cLine) : OpR X (compareOp .In) (rInN X.prog X.w false) := by
  intro pins s σ H x y v u Q I rx ry told
  obtain ⟨k, a, d, xs, rfl, rfl, hk, hd, e, hks, q⟩ := told
  obtain rfl : v = Value.ref a := rx
  obtain rfl : u = Value.ref d := ry
  obtain ⟨hz, hsys, ys, hp, dd⟩ := dictN_of I.hok e hks
  have room : (nestedKind X.prog X.w).room X.A.in1 := by show X.A.units + 1 + 8 < cLine; omega
  refine wpAny_in_heap room ⟨nk_is I.hok _ _ _ hk rfl, hd⟩ hsys dd ⟨.bl _, H, I.tok _, ?_, q⟩
  rw [isSome_ents hp, Bool.false_xor]
  rfl
theorem op_notInN (hu : X.A.units + 64 < cLine) : OpR X (compareOp .NotIn) (rInN X.prog X.w true) := by
  intro pins s σ H x y v u Q I rx ry told
  obtain ⟨k, a, d, xs, rfl, rfl, hk, hd, e, hks, q⟩ := told
  obtain rfl : v = Value.ref a := rx
  obtain rfl : u = Value.ref d := ry
  obtain ⟨hz, hsys, ys, hp, dd⟩ := dictN_of I.hok e hks
  have room : (nestedKind X.prog X.w).room X.A.in1 := by show X.A.units + 1 + 8 < cLine; omega
  show wpAny _ _ (do return Value.bool (!(← contains (.ref d) (.ref a)))) _ _ s
  refine wpAny_bind (wpAny_contains_heap room ⟨nk_is I.hok _ _ _ hk rfl, hd⟩ hsys dd (wpAny_pure ⟨.bl _, H, I.tok _, ?_, q⟩))
  rw [isSome_ents hp, Bool.true_xor]
  rfl
def rIxN (P : Program) (w : World) : R2 := fun x y H Q => ∃ (k : NestedKey) (a d : Addr) (xs : List NEnt) (v : V), x = .ref d ∧ y = .ref a ∧ NK H k (.ref a) ∧ k.depth ≤ 8 ∧ H d = some (dictN P w d xs) ∧ KeysN H xs ∧ atN xs k = some v ∧ Q v H
theorem ix_dictN (hu : X.A.units + 64 < cLine) : IxR X (rIxN X.prog X.w) := by
  intro value slice pins s σ H x y v u Q I rx ry told hs
  obtain ⟨k, a, d, xs, z, rfl, rfl, hk, hd, e, hks, hz, q⟩ := told
  obtain rfl : v = Value.ref d := rx
  obtain rfl : u = Value.ref a := ry
  obtain ⟨_, hsys, ys, hp, dd⟩ := dictN_of I.hok e hks
  have room : (nestedKind X.prog X.w).room X.A.in1 := by show X.A.units + 1 + 8 < cLine; omega
  rcases ents_at k hp with ⟨b, _⟩ | ⟨z2, p, b, c, rz⟩
  · rw [b] at hz; cases hz
  · rw [b] at hz
    cases hz
    exact subscriptTail_builtinR (x := p.2) dd.typeIs slot_dict_getitem.lookup (wpAny_getItem_heap room ⟨nk_is I.hok _ _ _ hk rfl, hd⟩ dd c ⟨rfl, _, H, I.tok _, rz, q⟩) hs
def rSetN (P : Program) (w : World) : V → V → V → Hp → (Hp → Prop) → Prop := fun o i v H Q => ∃ (k : NestedKey) (a d : Addr) (xs : List NEnt), o = .ref d ∧ i = .ref a ∧ NK H k (.ref a) ∧ k.depth ≤ 8 ∧ H d = some (dictN P w d xs) ∧ KeysN H xs ∧ atN xs k = none ∧ xs.length < sizeLine ∧ Q (upd H d (dictN P w d (xs ++ [(k, a, v)])))
theorem set_dictN (hu : X.A.units + 64 < cLine) : PSet X (rSetN X.prog X.w) := by
  intro pins s σ H o i v ov iv u Q I ro ri rv told
  obtain ⟨k, a, d, xs, rfl, rfl, hk, hd, e, hks, hn, hl, q⟩ := told
  obtain rfl : ov = Value.ref d := ro
  obtain rfl : iv = Value.ref a := ri
  obtain ⟨hz, hsys, ys, hp, dd⟩ := dictN_of I.hok e hks
  have room : (nestedKind X.prog X.w).room X.A.in1 := by show X.A.units + 1 + 8 < cLine; omega
  have hyn : atKey ys k = none := by
    rcases ents_at k hp with ⟨_, b⟩ | ⟨z, p, b, c, _⟩
    · exact b
    · rw [b] at hn; cases hn
  have hyl : ys.length ≤ sizeLine := by rw [← paired_len hp]; exact hz
  refine wpAny_setItem_heap (hsz := hyl) room ⟨nk_is I.hok _ _ _ hk rfl, hd⟩ dd fun h' hm hs => ?_
  rw [storedH_new hyn] at hm
  have hp2 : Paired EntR (xs ++ [(k, a, v)]) (ys ++ [(k, a, u)]) := paired_app (F := EntR) ⟨rfl, rfl, rv⟩ hp
  have there : ∃ o, h'.get? d = some o := by
    obtain ⟨o, es, ep, e1, _⟩ := hm
    exact ⟨o, e1⟩
  refine ⟨_, I.write (x := d) (e := d) (o := dictN X.prog X.w d (xs ++ [(k, a, v)])) (by rw [e]; exact True.intro) (.inl rfl) (fun b o hb ho => (hs.2 b hb).trans ho) there (dictN_ok ?_ hsys hp2 hm), q⟩
  rw [List.length_append]
  exact hl
end
/-! rows as keys -/
def kRow (r : List Str) : NestedKey := .tup (r.map NestedKey.text)
theorem nks_strs (H : Hp) : ∀ r : List Str, NKs H (r.map NestedKey.text) (r.map V.str)
  | [] => .nil
  | x :: r => .cons (.str x) (nks_strs H r)
theorem nk_row {H : Hp} {t : Addr} {r : List Str} (h : H t = some (.tup (r.map V.str))) : NK H (kRow r) (.ref t) := .tup h (nks_strs H r)
theorem depth_texts : ∀ r : List Str, NestedKey.depthAll (r.map NestedKey.text) = 0
  | [] => rfl
  | x :: r => by rw [List.map_cons, NestedKey.depthAll, depth_texts r]; rfl
theorem depth_row (r : List Str) : (kRow r).depth = 1 := by
  unfold kRow
  rw [NestedKey.depth, depth_texts]
theorem kRow_inj {a b : List Str} (h : kRow a = kRow b) : a = b := by
  unfold kRow at h
  have h := NestedKey.tup.inj h
  exact (List.map_inj_right fun x y q => NestedKey.text.inj q).mp h
mutual
theorem NK.same {H H' : Hp} (e : Same H H') : ∀ {k : NestedKey} {v : V}, NK H k v → NK H' k v
  | _, _, .non => .non
  | _, _, .int i => .int i
  | _, _, .str x => .str x
  | _, _, .tup h1 h2 => .tup (e _ _ h1) (NKs.same e h2)
theorem NKs.same {H H' : Hp} (e : Same H H') : ∀ {ks : List NestedKey} {vs : List V}, NKs H ks vs → NKs H' ks vs
  | _, _, .nil => .nil
  | _, _, .cons h1 h2 => .cons (NK.same e h1) (NKs.same e h2)
end
mutual
/-- a dict is written: the keys stay -/
theorem NK.mut {P : Program} {w : World} {H : Hp} {d : Addr} {xs : List NEnt} (hd : H d = some (dictN P w d xs)) (u : HO) : ∀ {k : NestedKey} {v : V}, NK H k v → NK (upd H d u) k v
  | _, _, .non => .non
  | _, _, .int i => .int i
  | _, _, .str x => .str x
  | _, _, .tup h1 h2 => .tup (by rw [upd_ne (fun z => by rw [z, hd] at h1; unfold dictN at h1; cases h1)]; exact h1) (NKs.mut hd u h2)
theorem NKs.mut {P : Program} {w : World} {H : Hp} {d : Addr} {xs : List NEnt} (hd : H d = some (dictN P w d xs)) (u : HO) : ∀ {ks : List NestedKey} {vs : List V}, NKs H ks vs → NKs (upd H d u) ks vs
  | _, _, .nil => .nil
  | _, _, .cons h1 h2 => .cons (NK.mut hd u h1) (NKs.mut hd u h2)
end
theorem KeysN.same {H H' : Hp} {xs : List NEnt} (h : KeysN H xs) (e : Same H H') : KeysN H' xs := fun x hx => ⟨(h x hx).1.same e, (h x hx).2⟩
theorem KeysN.put {P : Program} {w : World} {H : Hp} {d a : Addr} {xs : List NEnt} {k : NestedKey} {v : V} {u : HO} (h : KeysN H xs) (hd : H d = some (dictN P w d xs)) (hk : NK H k (.ref a)) (h8 : k.depth ≤ 8) : KeysN (upd H d u) (xs ++ [(k, a, v)]) := fun x hx => by
  rcases List.mem_append.mp hx with hx | hx
  · exact ⟨(h x hx).1.mut hd u, (h x hx).2⟩
  · rw [List.mem_singleton.mp hx]
    exact ⟨hk.mut hd u, h8⟩
mutual
theorem NK.tupS {H H' : Hp} (e : ∀ t xs, H t = some (.tup xs) → H' t = some (.tup xs)) : ∀ {k : NestedKey} {v : V}, NK H k v → NK H' k v
  | _, _, .non => .non
  | _, _, .int i => .int i
  | _, _, .str x => .str x
  | _, _, .tup h1 h2 => .tup (e _ _ h1) (NKs.tupS e h2)
theorem NKs.tupS {H H' : Hp} (e : ∀ t xs, H t = some (.tup xs) → H' t = some (.tup xs)) : ∀ {ks : List NestedKey} {vs : List V}, NKs H ks vs → NKs H' ks vs
  | _, _, .nil => .nil
  | _, _, .cons h1 h2 => .cons (NK.tupS e h1) (NKs.tupS e h2)
end
theorem NK.mutT {H : Hp} {D : Addr} (hD : ∀ t xs, H t = some (.tup xs) → t ≠ D) (u : HO) : ∀ {k : NestedKey} {v : V}, NK H k v → NK (upd H D u) k v := by
  intro k v h
  have e : ∀ t xs, H t = some (.tup xs) → (upd H D u) t = some (.tup xs) := fun t xs h => by rw [upd_ne (hD t xs h)]; exact h
  exact NK.tupS e h
theorem NKs.mutT {H : Hp} {D : Addr} (hD : ∀ t xs, H t = some (.tup xs) → t ≠ D) (u : HO) {ks : List NestedKey} {vs : List V} (h : NKs H ks vs) : NKs (upd H D u) ks vs :=
  NKs.tupS (fun t xs h => by rw [upd_ne (hD t xs h)]; exact h) h
theorem NKs.app {H : Hp} : ∀ {ks ks2 : List NestedKey} {vs vs2 : List V}, NKs H ks vs → NKs H ks2 vs2 → NKs H (ks ++ ks2) (vs ++ vs2)
  | _, _, _, _, .nil, h => h
  | _, _, _, _, .cons h1 h2, h => .cons h1 (NKs.app h2 h)
def rTupS (K : PySem.W.Frag) : List V → Hp → VK → Prop := fun xs H Q => ∃ p ys, xs = [.ref p] ∧ ((SqL K H p ys ∧ ∀ l, H l = none → Q (.ref l) (upd H l (.tup ys))) ∨ (SqT K H p ys ∧ Q (.ref p) H))
end SG
/-! words by layers, in plain words -/
namespace SG
open PySem PySem.Spec PyProof.Rows L2
abbrev WR := Str × List Str
/-- a name's rules by their letters -/
def kRules (rs : List Rule) (n : Str) : List Step := (rulesOf rs n).mergeSort (PySem.W.dataLe false fun p : Step => PyData.str p.1)
def nextW (f : Str → List Step) (p : WR) : List WR := match p.2 with
  | [] => []
  | n :: t => (f n).map fun q => (p.1 ++ q.1, q.2 ++ t)
def layW (f : Str → List Step) (row : List Str) : Nat → List WR
  | 0 => [("", row)]
  | i + 1 => (layW f row i).flatMap (nextW f)
def doneW (L : List WR) : List Str := (L.filter fun p => decide (p.2 = [])).map (·.1)
def wordsW (f : Str → List Step) (row : List Str) (k : Nat) : List Str := (List.range k).flatMap fun i => doneW (layW f row i)
theorem wordsW_snoc (f : Str → List Step) (row : List Str) (k : Nat) : wordsW f row (k + 1) = wordsW f row k ++ doneW (layW f row k) := by
  unfold wordsW
  rw [List.range_succ, List.flatMap_append]
  simp
theorem layW_congr {f g : Str → List Step} (h : ∀ n, f n = g n) (row : List Str) (i : Nat) : layW f row i = layW g row i := by
  have e : f = g := funext h
  rw [e]
/-! all texts of some letters -/
def allT (sg : List Str) : Nat → List Str
  | 0 => [""]
  | i + 1 => (allT sg i).flatMap fun w => sg.map (w ++ ·)
def triedW (rs : List Rule) (row : List Str) (sg : List Str) (k : Nat) : List Str := (List.range k).flatMap fun i => (allT sg i).filter fun w => decide (byLs rs (some row) w = some [])
theorem triedW_snoc (rs : List Rule) (row sg : List Str) (k : Nat) : triedW rs row sg (k + 1) = triedW rs row sg k ++ (allT sg k).filter fun w => decide (byLs rs (some row) w = some []) := by
  unfold triedW
  rw [List.range_succ, List.flatMap_append]
  simp
theorem signs_app (a b : Str) : signsOf (a ++ b) = signsOf a ++ signsOf b := by
  unfold signsOf
  rw [← List.map_append]
  congr 1
  exact Array.toList_append
theorem signs_nil : signsOf "" = [] := by decide +kernel
theorem signs_one {c : Str} (h : c.length = 1) : signsOf c = [c] := by
  have h1 : c.cps.size = 1 := h
  unfold signsOf
  match e : c.cps.toList with
  | [] => rw [← Array.length_toList, e] at h1; cases h1
  | [x] =>
    rw [List.map_singleton]
    congr 1
    exact PySem.W.str_of_cps e.symm
  | _ :: _ :: _ => rw [← Array.length_toList, e] at h1; simp at h1
theorem byLs_app {rs : List Rule} {o : Row?} {w c : Str} (h : c.length = 1) : byLs rs o (w ++ c) = stepL rs (byLs rs o w) c := by
  unfold byLs
  rw [signs_app, signs_one h, List.foldl_append]
  rfl
theorem filterMap_cg {α β : Type} {f g : α → Option β} : ∀ {l : List α}, (∀ a ∈ l, f a = g a) → l.filterMap f = l.filterMap g
  | [], _ => rfl
  | a :: l, h => by rw [List.filterMap_cons, List.filterMap_cons, h a List.mem_cons_self, filterMap_cg fun b hb => h b (List.mem_cons_of_mem _ hb)]
def pairW (rs : List Rule) (row : List Str) (w : Str) : Option WR := (byLs rs (some row) w).map fun r => (w, r)
theorem filterMap_flat {α β γ : Type} (f : β → Option γ) (g : α → List β) : ∀ l : List α, (l.flatMap g).filterMap f = l.flatMap fun a => (g a).filterMap f
  | [] => rfl
  | a :: l => by rw [List.flatMap_cons, List.filterMap_append, filterMap_flat f g l, List.flatMap_cons]
theorem flat_filterMap {α β γ : Type} (f : α → Option β) (g : β → List γ) : ∀ l : List α, (l.filterMap f).flatMap g = l.flatMap fun a => (f a).elim [] g
  | [] => rfl
  | a :: l => by
    rw [List.flatMap_cons, List.filterMap_cons]
    cases f a with
    | none => exact flat_filterMap f g l
    | some b =>
      simp only
      rw [List.flatMap_cons, flat_filterMap f g l]
      rfl
/-- letters of a name, in their order -/
def LettersAre (rs : List Rule) (sg : List Str) (f : Str → List Step) (names : List Str) : Prop := ∀ n ∈ names, sg.filterMap (byL rs n) = f n
theorem layer_step {rs : List Rule} {sg : List Str} {f : Str → List Step} {names : List Str} (hf : LettersAre rs sg f names) (h1 : ∀ c ∈ sg, c.length = 1) {row : List Str} {w : Str} (hr : ∀ r, byLs rs (some row) w = some r → ∀ x ∈ r, x ∈ names) :
    (sg.map (w ++ ·)).filterMap (pairW rs row) = (pairW rs row w).elim [] (nextW f) := by
  have key : ∀ c ∈ sg, pairW rs row (w ++ c) = (stepL rs (byLs rs (some row) w) c).map fun r => (w ++ c, r) := fun c hc => by
    unfold pairW
    rw [byLs_app (h1 c hc)]
  rw [List.filterMap_map]
  have e : sg.filterMap (pairW rs row ∘ (w ++ ·)) = sg.filterMap fun c => (stepL rs (byLs rs (some row) w) c).map fun r => (w ++ c, r) := by
    refine filterMap_cg fun c hc => ?_
    exact key c hc
  rw [e]
  unfold pairW
  cases hb : byLs rs (some row) w with
  | none => simp [stepL]
  | some r =>
    cases r with
    | nil => simp [stepL, nextW]
    | cons n t =>
      have hn := hr _ hb n List.mem_cons_self
      show _ = nextW f (w, n :: t)
      unfold nextW
      simp only
      rw [← hf n hn, List.map_filterMap]
      refine filterMap_cg fun c hc => ?_
      show ((byL rs n c).map fun p => p.2 ++ t).map _ = _
      cases hby : byL rs n c with
      | none => rfl
      | some p =>
        have hpc : p.1 = c := by
          have := List.find?_some hby
          simpa using this
        simp [hpc]
theorem layers {rs : List Rule} {sg : List Str} {f : Str → List Step} {names : List Str} (hf : LettersAre rs sg f names) (h1 : ∀ c ∈ sg, c.length = 1) {row : List Str} (hin : ∀ r ∈ rs, ∀ x ∈ r.2.2, x ∈ names) (hrow : ∀ x ∈ row, x ∈ names) : ∀ i, layW f row i = (allT sg i).filterMap (pairW rs row)
  | 0 => by
    show [((("" : Str)), row)] = [("" : Str)].filterMap (pairW rs row)
    have : pairW rs row "" = some ((("" : Str)), row) := by
      unfold pairW byLs
      rw [signs_nil]
      rfl
    rw [List.filterMap_cons, this]
    rfl
  | i + 1 => by
    have hr : ∀ w r, byLs rs (some row) w = some r → ∀ x ∈ r, x ∈ names := fun w => by
      unfold byLs
      have g : ∀ (l : List Str) (o : Row?), (∀ r, o = some r → ∀ x ∈ r, x ∈ names) → ∀ r, l.foldl (stepL rs) o = some r → ∀ x ∈ r, x ∈ names := fun l => by
        induction l with
        | nil => intro o ho r e; exact ho r e
        | cons c l ih => intro o ho r e; exact ih _ (stepL_in hin ho) r e
      exact g _ _ fun r e x hx => hrow x (by rw [Option.some.inj e]; exact hx)
    show (layW f row i).flatMap (nextW f) = ((allT sg i).flatMap fun w => sg.map (w ++ ·)).filterMap (pairW rs row)
    rw [layers hf h1 hin hrow i, filterMap_flat, flat_filterMap]
    congr 1
    funext w
    exact (layer_step hf h1 (hr w)).symm
theorem done_layer (rs : List Rule) (row : List Str) : ∀ l : List Str, doneW (l.filterMap (pairW rs row)) = l.filter fun w => decide (byLs rs (some row) w = some [])
  | [] => rfl
  | w :: l => by
    have ih := done_layer rs row l
    unfold doneW at ih ⊢
    rw [List.filterMap_cons, List.filter_cons]
    have e : pairW rs row w = (byLs rs (some row) w).map fun r => (w, r) := rfl
    cases hb : byLs rs (some row) w with
    | none =>
      rw [e, hb]
      simp only [Option.map_none]
      rw [ih]
      simp
    | some r =>
      rw [e, hb]
      simp only [Option.map_some]
      rw [List.filter_cons]
      by_cases c : r = []
      · subst c
        simp [ih]
      · simp [c, ih]
theorem tried_words {rs : List Rule} {sg : List Str} {f : Str → List Step} {names : List Str} (hf : LettersAre rs sg f names) (h1 : ∀ c ∈ sg, c.length = 1) {row : List Str} (hin : ∀ r ∈ rs, ∀ x ∈ r.2.2, x ∈ names) (hrow : ∀ x ∈ row, x ∈ names) (k : Nat) : triedW rs row sg k = wordsW f row k := by
  unfold triedW wordsW
  congr 1
  funext i
  rw [layers hf h1 hin hrow i, done_layer]
/-! letters in their order -/
theorem find_pl : ∀ {l : List Step} {p : Step}, (l.map (·.1)).Nodup → p ∈ l → l.find? (fun q => decide (q.1 = p.1)) = some p
  | [], _, _, h => by cases h
  | x :: l, p, nd, h => by
    rw [List.map_cons, List.nodup_cons] at nd
    rcases List.mem_cons.mp h with rfl | h
    · rw [List.find?_cons_of_pos (by simp)]
    · rw [List.find?_cons_of_neg, find_pl nd.2 h]
      intro e
      exact nd.1 (by rw [of_decide_eq_true e]; exact List.mem_map_of_mem h)
theorem byL_iff {rs : List Rule} (hp : PlainR rs) {n c : Str} {p : Step} : byL rs n c = some p ↔ p ∈ rulesOf rs n ∧ p.1 = c := by
  unfold byL
  constructor
  · intro h
    exact ⟨List.mem_of_find?_eq_some h, by simpa using List.find?_some h⟩
  · rintro ⟨h, rfl⟩
    exact find_pl (hp n) h
theorem le_str (a b : Str) : leE PyData.str a b = decide (a.cps.toList ≤ b.cps.toList) := congrFun (congrFun (PySem.W.dataLe_str (fun x : Str => x)) a) b
theorem le_row {a b : Step} (hne : a.1 ≠ b.1) (h : leE PyData.str a.1 b.1 = true) : leE eRow a b = true := by
  have e1 : leE eRow a b = !PySem.W.dataLt (eRow b) (eRow a) := rfl
  have e2 : leE PyData.str a.1 b.1 = !PySem.W.dataLt (PyData.str b.1) (PyData.str a.1) := rfl
  rw [e1]
  rw [e2] at h
  show (!PySem.W.dataLt (.tuple [PyData.str b.1, eSs b.2]) (.tuple [PyData.str a.1, eSs a.2])) = true
  rw [PySem.W.dataLt_pair (alk_str _ _) (alk_L alk_str _ _), if_neg]
  · exact h
  · rw [enc_str]
    intro z
    exact hne (of_decide_eq_true z).symm
theorem letters_row {rs : List Rule} {signs : List Str} (hp : PlainR rs) (hs : ∀ r ∈ rs, r.2.1 ∈ signs) (nd : signs.Nodup) (n : Str) : (ssort signs).filterMap (byL rs n) = esort eRow (rulesOf rs n) := by
  have nds : (ssort signs).Nodup := (ssort_perm signs).nodup_iff.mpr nd
  have pw : (ssort signs).Pairwise fun a b => a ≠ b ∧ decide (a.cps.toList ≤ b.cps.toList) = true := List.Pairwise.and nds (ssort_pair signs)
  refine esort_of enc_Row alk_Row ?_ ?_
  · refine (List.perm_ext_iff_of_nodup ?_ ?_).mpr fun p => ?_
    · have g : ∀ a b : Str, a ≠ b → ∀ p, byL rs n a = some p → ∀ q, byL rs n b = some q → p ≠ q := fun a b hab p hpa q hqb e => hab (by rw [← ((byL_iff hp).mp hpa).2, ← ((byL_iff hp).mp hqb).2, e])
      exact List.Pairwise.filterMap _ g nds
    · exact (List.pairwise_map.mp (hp n)).imp fun h e => h (by rw [e])
    · rw [List.mem_filterMap]
      constructor
      · rintro ⟨c, _, h⟩
        exact ((byL_iff hp).mp h).1
      · intro h
        exact ⟨p.1, (ssort_perm signs).mem_iff.mpr (hs _ (mem_rulesOf.mp h)), (byL_iff hp).mpr ⟨h, rfl⟩⟩
  · refine List.Pairwise.filterMap _ (fun a b hab p hpa q hqb => ?_) pw
    have e1 := ((byL_iff hp).mp hpa).2
    have e2 := ((byL_iff hp).mp hqb).2
    refine le_row (by rw [e1, e2]; exact hab.1) ?_
    rw [e1, e2, le_str]
    exact hab.2
theorem kRules_row {rs : List Rule} (hp : PlainR rs) (n : Str) : kRules rs n = esort eRow (rulesOf rs n) := by
  have hperm : (kRules rs n).Perm (rulesOf rs n) := List.mergeSort_perm _ _
  have nd : ((kRules rs n).map (·.1)).Nodup := (hperm.map _).nodup_iff.mpr (hp n)
  have pw : (kRules rs n).Pairwise fun a b => leE PyData.str a.1 b.1 = true := esort_pair (fun p : Step => PyData.str p.1) (rulesOf rs n)
  refine esort_of enc_Row alk_Row hperm ?_
  exact (List.Pairwise.and (List.pairwise_map.mp nd) pw).imp fun h => le_row h.1 h.2
theorem letters_are {rs : List Rule} {signs names : List Str} (hp : PlainR rs) (hs : ∀ r ∈ rs, r.2.1 ∈ signs) (nd : signs.Nodup) : LettersAre rs (ssort signs) (fun n => esort eRow (rulesOf rs n)) names := fun n _ => letters_row hp hs nd n
theorem signsB_nd {m : Nat} {xs : List Str} (h : SignsB m xs) (hm : m ≤ 26) : xs.Nodup := by
  obtain ⟨h1, f, h2⟩ := h
  refine List.pairwise_iff_getElem.mpr fun i j hi hj hij e => ?_
  have a := h2 i _ (List.getElem?_eq_getElem hi)
  have b := h2 j _ (List.getElem?_eq_getElem hj)
  unfold SignB at a b
  rw [e, b] at a
  have e2 := congrArg (fun z : Str => z.cps.toList) a
  simp at e2
  omega
/-! bounds -/
theorem layW_len {rs : List Rule} {f : Str → List Step} {row : List Str} (hf : ∀ n, (f n).length ≤ 4) : ∀ i, (layW f row i).length ≤ 4 ^ i
  | 0 => Nat.le_refl _
  | i + 1 => by
    have ih := layW_len (rs := rs) (row := row) hf i
    have g : ∀ l : List WR, (l.flatMap (nextW f)).length ≤ l.length * 4 := fun l => by
      induction l with
      | nil => exact Nat.zero_le _
      | cons p l ih =>
        rw [List.flatMap_cons, List.length_append, List.length_cons, Nat.add_mul]
        have : (nextW f p).length ≤ 4 := by
          unfold nextW
          split
          · exact Nat.zero_le _
          · rw [List.length_map]; exact hf _
        omega
    have := g (layW f row i)
    show ((layW f row i).flatMap (nextW f)).length ≤ _
    rw [Nat.pow_succ]
    omega
theorem str_len (a b : Str) : (a ++ b).length = a.length + b.length := Array.size_append
def LayOk (names : List Str) (k i : Nat) (L : List WR) : Prop := ∀ p ∈ L, p.1.length ≤ i ∧ p.2.length ≤ k + 3 * i ∧ ∀ x ∈ p.2, x ∈ names
theorem layW_ok {rs : List Rule} {names : List Str} {f : Str → List Step} (hg : GoodR names rs) (hf : ∀ n q, q ∈ f n → q ∈ rulesOf rs n) {row : List Str} {k : Nat} (hr : row.length ≤ k) (hi : ∀ x ∈ row, x ∈ names) : ∀ i, LayOk names k i (layW f row i)
  | 0 => fun p hp => by
    rw [List.mem_singleton.mp hp]
    exact ⟨Nat.le_refl _, by simpa using hr, hi⟩
  | i + 1 => fun p hp => by
    obtain ⟨p0, hp0, h⟩ := List.mem_flatMap.mp (show p ∈ (layW f row i).flatMap (nextW f) from hp)
    obtain ⟨a1, a2, a3⟩ := layW_ok hg hf hr hi i p0 hp0
    unfold nextW at h
    split at h
    · cases h
    · rename_i n t e
      rw [e] at a2 a3
      obtain ⟨q, hq, rfl⟩ := List.mem_map.mp h
      obtain ⟨_, b2, b3, b4⟩ := hg.ok _ (mem_rulesOf.mp (hf _ _ hq))
      have b2' := isLetter_len b2
      simp only at b2' b3 b4
      refine ⟨by rw [str_len]; omega, by rw [List.length_append]; simp at a2; omega, fun x hx => ?_⟩
      rcases List.mem_append.mp hx with hx | hx
      · exact b4 x hx
      · exact a3 x (List.mem_cons_of_mem _ hx)
theorem doneW_snoc (L : List WR) (p : WR) : doneW (L ++ [p]) = if p.2 = [] then doneW L ++ [p.1] else doneW L := by
  unfold doneW
  rw [List.filter_append, List.map_append]
  by_cases c : p.2 = []
  · simp [c]
  · simp [c]
theorem doneW_len (L : List WR) : (doneW L).length ≤ L.length := by
  unfold doneW
  rw [List.length_map]
  exact List.length_filter_le _ _
theorem wordsW_len {rs : List Rule} {f : Str → List Step} {row : List Str} (hf : ∀ n, (f n).length ≤ 4) : ∀ k, (wordsW f row k).length ≤ k * 4 ^ k
  | 0 => Nat.le_refl _
  | k + 1 => by
    have ih := wordsW_len (rs := rs) (row := row) hf k
    have h1 := layW_len (rs := rs) (row := row) hf k
    have h2 := doneW_len (layW f row k)
    rw [wordsW_snoc, List.length_append, Nat.pow_succ, Nat.add_mul]
    have h3 : k * 4 ^ k ≤ k * (4 ^ k * 4) := Nat.mul_le_mul_left _ (by omega)
    omega
theorem allT_len {sg : List Str} (h : sg.length ≤ 4) : ∀ i, (allT sg i).length ≤ 4 ^ i
  | 0 => Nat.le_refl _
  | i + 1 => by
    have ih := allT_len h i
    have g : ∀ l : List Str, (l.flatMap fun w => sg.map (w ++ ·)).length ≤ l.length * 4 := fun l => by
      induction l with
      | nil => exact Nat.zero_le _
      | cons p l ih =>
        rw [List.flatMap_cons, List.length_append, List.length_cons, Nat.add_mul, List.length_map]
        omega
    have := g (allT sg i)
    show ((allT sg i).flatMap fun w => sg.map (w ++ ·)).length ≤ _
    rw [Nat.pow_succ]
    omega
theorem allT_word {sg : List Str} (h : ∀ c ∈ sg, c.length = 1) : ∀ i, ∀ w ∈ allT sg i, w.length ≤ i
  | 0, w, hw => by rw [List.mem_singleton.mp hw]; exact Nat.le_refl _
  | i + 1, w, hw => by
    obtain ⟨w0, h0, h1⟩ := List.mem_flatMap.mp (show w ∈ (allT sg i).flatMap fun w => sg.map (w ++ ·) from hw)
    obtain ⟨c, hc, rfl⟩ := List.mem_map.mp h1
    have := allT_word h i w0 h0
    have := h c hc
    rw [str_len]
    omega
theorem triedW_len {rs : List Rule} {row sg : List Str} (h : sg.length ≤ 4) : ∀ k, (triedW rs row sg k).length ≤ k * 4 ^ k
  | 0 => Nat.le_refl _
  | k + 1 => by
    have ih := triedW_len (rs := rs) (row := row) h k
    have h1 := allT_len h k
    have h2 := List.length_filter_le (fun w => decide (byLs rs (some row) w = some [])) (allT sg k)
    rw [triedW_snoc, List.length_append, Nat.pow_succ, Nat.add_mul]
    have h3 : k * 4 ^ k ≤ k * (4 ^ k * 4) := Nat.mul_le_mul_left _ (by omega)
    omega
theorem ssort_len (xs : List Str) : (ssort xs).length = xs.length := (ssort_perm xs).length_eq
theorem perm_refs {ys : List V} {ts : List Addr} (h : ys.Perm (ts.map V.ref)) : ∃ zs : List Addr, ys = zs.map V.ref ∧ zs.Perm ts := by
  have unR : V → Addr := fun v => match v with | .ref a => a | _ => 0
  obtain ⟨un, hun⟩ : ∃ un : V → Addr, ∀ a, un (.ref a) = a := ⟨fun v => match v with | .ref a => a | _ => 0, fun _ => rfl⟩
  refine ⟨ys.map un, ?_, ?_⟩
  · rw [List.map_map]
    have : ∀ y ∈ ys, (V.ref ∘ un) y = y := fun y hy => by
      obtain ⟨x, _, rfl⟩ := List.mem_map.mp (h.mem_iff.mp hy)
      show V.ref (un (.ref x)) = _
      rw [hun]
    exact (List.map_congr_left this).trans (List.map_id _) |>.symm
  · have h2 := h.map un
    rw [List.map_map] at h2
    have e : (un ∘ V.ref) = id := funext hun
    rwa [e, List.map_id] at h2
theorem paired_perm {α β : Type} {F : α → β → Prop} {xs ys : List α} (h : ys.Perm xs) : ∀ {zs : List β}, Paired F xs zs → ∃ us : List β, us.Perm zs ∧ Paired F ys us := by
  induction h with
  | nil => intro zs hp; exact ⟨zs, .refl _, hp⟩
  | cons x _ ih =>
    intro zs hp
    cases hp with
    | cons h1 h2 =>
      obtain ⟨us, p, q⟩ := ih h2
      exact ⟨_ :: us, p.cons _, .cons h1 q⟩
  | swap x y l =>
    intro zs hp
    cases hp with
    | cons h1 h2 => cases h2 with
      | cons h3 h4 => exact ⟨_, .swap _ _ _, .cons h3 (.cons h1 h4)⟩
  | trans _ _ ih1 ih2 =>
    intro zs hp
    obtain ⟨us, p, q⟩ := ih2 hp
    obtain ⟨vs, p2, q2⟩ := ih1 q
    exact ⟨vs, p2.trans p, q2⟩
theorem EndsR.perm {names : List Str} {rs qs : List Rule} (h : EndsR names rs) (p : rs.Perm qs) : EndsR names qs := fun x hx => by
  obtain ⟨v, d⟩ := h x hx
  exact ⟨v, d.more fun e he => ((p.map _).mem_iff (a := e)).mp he⟩
theorem PlainR.perm {rs qs : List Rule} (h : PlainR rs) (p : rs.Perm qs) : PlainR qs := fun n => (((rulesOf_perm p n).map (·.1)).nodup_iff).mp (h n)
end SG
/-! sorted(d), d a dict of texts; pairs of rows, words that part them -/
namespace SG
open PySem PySem.Spec PyProof.Rows L2
section
variable {X : Cx}
def rSortedD : List V → Hp → VK → Prop := fun vs H Q => ∃ (a : Addr) (kvs : List (Key × V)) (ks : List Str), vs = [V.ref a] ∧ H a = some (.dK kvs) ∧ kvs.map (·.1) = ks.map Sum.inr ∧ ks.length < 64 ∧ ∀ p, H p = none → Q (.ref p) (upd H p (.lst ((ssort ks).map V.str)))
theorem cr_sortedD (hc : X.calm = true) : CallR X (.builtin "sorted") rSortedD := by
  intro pins s σ H vs us Q I r h
  obtain ⟨d, kvs, ks, rfl, hd, hks, h64, k⟩ := h
  rw [Vals.ref1 r]
  obtain ⟨z, lo, vs, rel, dd⟩ := dk_of I.hok hd
  obtain ⟨ep, hat⟩ := dd.dictAt
  have hkeys : vs.map (·.1) = ks.map Sum.inr := rel.keys.symm.trans hks
  have hl : vs.length = ks.length := by
    have e := congrArg List.length hkeys
    rw [List.length_map, List.length_map] at e
    exact e
  have h16 : vs.length ≤ sizeLine := by rw [hl, sizeLine_eq]; omega
  refine Calls.call_function_entry PyProof.Rows.kind_sorted PyProof.Rows.plain_sorted PyProof.Rows.entry_sorted (PyProof.Rows.args_sorted1 _) ?_
  unfold Builtin.«sorted»
  refine wpAny_bind (m := checkCount "sorted" 1 1 _) (wpAny_pure ?_)
  refine wpAny_bind (PySem.W.kdu_collect (A := X.A.in1) (PySem.W.kdl_dict (knd := mixKind X.prog X.w) (kvs := vs) (ep := ep) lo) (I.ok.hd hc) hat h16 fun h' tk acc hk hacc => ?_)
  have hal : acc.toList.length = ks.length := by rw [Array.length_toList, hacc.1, hl]
  have hS : StrsAre acc.toList ks := strs_at hal fun j v e => by
    obtain ⟨k, x, e1, e2⟩ := hacc.2 j v (by rw [← Array.getElem?_toList]; exact e)
    have e3 : (vs.map (·.1))[j]? = some k := by rw [List.getElem?_map, e1]; all_goals rfl
    rw [hkeys, List.getElem?_map] at e3
    cases e4 : ks[j]? with
    | none => rw [e4] at e3; cases e3
    | some y =>
      rw [e4] at e3
      have e5 : Sum.inr y = k := Option.some.inj e3
      subst e5
      obtain ⟨t, ev⟩ := Value.isStrOf_shape (x := y) (v := v) e2
      exact ⟨y, t, rfl, ev⟩
  have I3 : Inv X pins σ H { s with heap := h', toks := tk } := I.kept hk
  refine wpAny_bind (wpAny_newList ?_ (by rw [hal, sizeLine_eq]; omega))
  have hoL : (h'.push (seqObj "list" acc.toList.toArray 0)).get? h'.objs.size = some (seqObj "list" acc.toList.toArray 0) := Heap.get?_push_size _ rfl
  show wpAny _ _ _ _ _ { s with heap := h'.push (seqObj "list" acc.toList.toArray 0), toks := tk }
  refine wpAny_bind (wpAny_holding (wpAny_call_entry PyProof.Rows.slot_list_sort ⟨_, hoL, rfl⟩ PyProof.Rows.entry_list_sort
    (list_sort_treeK strKind_oneLt (s := { s with heap := h'.push (seqObj "list" acc.toList.toArray 0), toks := tk }) hoL hS.keysOf (fun v₁ v₂ rest e => keyKind_strs (by rw [← e]; exact hS)) (by rw [hal]; exact h64) fun st' hp hs => ⟨_, rfl, ?_⟩)
    (PyProof.Rows.args_list_sort _)))
  obtain ⟨ys, g1, g2, g3⟩ := sorted_out_str hS hp hs
  obtain ⟨e', he'⟩ := PyProof.Rows.sortedHeap_at (vs := acc.toList) (out := (arrOf st').map (·.2)) hoL
  have hlen : (ys.map V.str).length ≤ sizeLine := by
    rw [List.length_map, g2.length_eq]
    exact Nat.le_trans (Nat.le_of_lt h64) (by decide)
  refine wpAny_pure ⟨_, rfl, .ref h'.objs.size, upd H h'.objs.size (.lst (ys.map V.str)), I3.laid (t' := tk) (fun b u e => ?_) (Nat.le_refl _)
    (show ObjOk X.prog X.w _ _ _ (.lst (ys.map V.str)) from ⟨hlen, ((arrOf st').map (·.2)).toList, e', vals_of_strs g1, by rw [Array.toArray_toList]; exact he'⟩), rfl, by rw [sortedS_ssort g3 g2]; exact k _ (I3.hok.fresh (Nat.le_refl _))⟩
  have hb : b < h'.objs.size := Heap.lt_size e
  rw [PyProof.Rows.sortedHeap_old (Nat.ne_of_lt hb) (by rw [size_push']; exact Nat.lt_succ_of_lt hb)]
  exact Heap.get?_push_of_some _ e
end
/-! ### keys, each once -/
theorem once1_mem {l : List Str} {x k : Str} : k ∈ once1 l x ↔ k ∈ l ∨ k = x := by
  unfold once1
  split
  · rename_i h
    rw [List.any_eq_true] at h
    obtain ⟨y, hy, e⟩ := h
    have e : y = x := by simpa using e
    constructor
    · exact .inl
    · rintro (h | rfl)
      · exact h
      · exact e ▸ hy
  · rw [List.mem_append, List.mem_singleton]
theorem once_memL (xs : List Str) (k : Str) : k ∈ once xs ↔ k ∈ xs := by
  have g : ∀ (xs l : List Str), k ∈ xs.foldl once1 l ↔ k ∈ l ∨ k ∈ xs := fun xs => by
    induction xs with
    | nil => intro l; simp
    | cons x xs ih =>
      intro l
      rw [List.foldl_cons, ih, once1_mem, List.mem_cons, or_assoc]
  unfold once
  rw [g]
  simp
theorem once_nd (xs : List Str) : (once xs).Nodup := by
  have g : ∀ (xs l : List Str), l.Nodup → (xs.foldl once1 l).Nodup := fun xs => by
    induction xs with
    | nil => intro l h; exact h
    | cons x xs ih =>
      intro l h
      rw [List.foldl_cons]
      refine ih _ ?_
      unfold once1
      split
      · exact h
      · rename_i c
        rw [List.nodup_append]
        refine ⟨h, by simp, fun a ha b hb e => c ?_⟩
        rw [List.mem_singleton.mp hb] at e
        rw [List.any_eq_true]
        exact ⟨a, ha, by rw [e]; simp⟩
  exact g xs [] List.nodup_nil
def kvsT (ks : List Str) : List (Key × V) := ks.map fun c => ((Sum.inr c : Key), V.bl true)
theorem kvsT_put (ks : List Str) (c : Str) : putK (kvsT ks) (Sum.inr c : Key) (.bl true) = kvsT (once1 ks c) := by
  unfold once1
  by_cases h : ks.any (· == c) = true
  · rw [if_pos h]
    have ha : ((kvsT ks).any fun kv => decide (kv.1 = (Sum.inr c : Key))) = true := by
      rw [List.any_eq_true] at h ⊢
      obtain ⟨y, hy, e⟩ := h
      have e : y = c := by simpa using e
      exact ⟨_, List.mem_map_of_mem hy, by rw [e]; simp⟩
    unfold putK
    rw [if_pos ha]
    unfold kvsT
    rw [List.map_map]
    refine List.map_congr_left fun x _ => ?_
    simp only [Function.comp]
    split <;> rfl
  · rw [if_neg h]
    have e : valV (kvsT ks) (Sum.inr c : Key) = none := by
      unfold valV kvsT
      rw [Option.map_eq_none_iff, List.find?_eq_none]
      intro x hx hc
      obtain ⟨y, hy, rfl⟩ := List.mem_map.mp hx
      have e2 : y = c := Sum.inr.inj (of_decide_eq_true hc)
      exact h (List.any_eq_true.mpr ⟨y, hy, by rw [e2]; simp⟩)
    rw [putK_new _ e]
    unfold kvsT
    rw [List.map_append]
    rfl
theorem kvsT_keys (ks : List Str) : (kvsT ks).map (·.1) = ks.map Sum.inr := by
  unfold kvsT
  rw [List.map_map]
  rfl
/-! ### pairs -/
abbrev PairR := Row? × Row?
abbrev EntP := Str × PairR
def stepP (rs : List Rule) (p : PairR) (c : Str) : PairR := (stepL rs p.1 c, stepL rs p.2 c)
def stepsP (rs : List Rule) (p : PairR) (c : Str) : Bool := decide (stepP rs p c ≠ (none, none))
def nextP (rs : List Rule) (sg : List Str) (e : EntP) : List EntP := (sg.filter (stepsP rs e.2)).map fun c => (e.1 ++ c, stepP rs e.2 c)
def partsP (p : PairR) : Bool := decide (p.1 = some []) != decide (p.2 = some [])
def addP (f : List EntP) (e : EntP) : List EntP := if e.2 ∈ f.map (·.2) then f else f ++ [e]
def layF (rs : List Rule) (sg : List Str) (p : PairR) : Nat → List EntP
  | 0 => [("", p)]
  | i + 1 => (layF rs sg p i).flatMap (nextP rs sg)
def neP (e : EntP) : Bool := decide (e.2.1 ≠ e.2.2)
def behindP (rs : List Rule) (sg : List Str) (X : List EntP) : List EntP := (X.flatMap (nextP rs sg)).foldl addP []
def layQ (rs : List Rule) (sg : List Str) (p : PairR) : Nat → List EntP
  | 0 => [("", p)]
  | i + 1 => behindP rs sg ((layQ rs sg p i).filter neP)
def firstL (lay : Nat → List EntP) (k : Nat) : Option Str := (List.range k).findSome? fun i => ((lay i).find? fun e => partsP e.2).map (·.1)
theorem firstL_snoc (lay : Nat → List EntP) (k : Nat) : firstL lay (k + 1) = (firstL lay k).or (((lay k).find? fun e => partsP e.2).map (·.1)) := by
  unfold firstL
  rw [List.range_succ, List.findSome?_append, List.findSome?_singleton]
theorem find_some {α β : Type} (f : α → Option β) : ∀ l : List α, l.findSome? f = (l.find? fun a => (f a).isSome).bind f
  | [] => rfl
  | a :: l => by
    rw [List.findSome?_cons, List.find?_cons]
    cases e : f a with
    | none => simp only [Option.isSome_none]; exact find_some f l
    | some b => simp [e]
theorem find_flat {α β : Type} (p : β → Bool) (g : α → List β) : ∀ l : List α, (l.flatMap g).find? p = l.findSome? fun a => (g a).find? p
  | [] => rfl
  | a :: l => by
    rw [List.flatMap_cons, List.find?_append, List.findSome?_cons, find_flat p g l]
    cases (g a).find? p <;> rfl
theorem find_add (q : PairR → Bool) : ∀ (l f : List EntP), (l.foldl addP f).find? (fun e => q e.2) = (f ++ l).find? fun e => q e.2
  | [], f => by rw [List.append_nil]; rfl
  | e :: l, f => by
    rw [List.foldl_cons, find_add q l]
    unfold addP
    split
    · rename_i h
      rw [List.find?_append, List.find?_append]
      cases hf : f.find? fun e => q e.2 with
      | some x => rfl
      | none =>
        rw [List.find?_eq_none] at hf
        obtain ⟨y, hy, e1⟩ := List.mem_map.mp h
        have h2 := hf y hy
        rw [e1] at h2
        rw [List.find?_cons_of_neg (p := fun e : EntP => q e.2) h2]
    · rw [List.append_assoc]
      rfl
theorem lay_same (rs : List Rule) (sg : List Str) (p : PairR) : ∀ (i : Nat) (q : PairR → Bool), (∀ x, q (x, x) = false) → (layQ rs sg p i).find? (fun e => q e.2) = (layF rs sg p i).find? fun e => q e.2
  | 0, _, _ => rfl
  | i + 1, q, hq => by
    show (((layQ rs sg p i).filter neP).flatMap (nextP rs sg) |>.foldl addP []).find? _ = ((layF rs sg p i).flatMap (nextP rs sg)).find? _
    rw [find_add, List.nil_append, find_flat, find_flat, find_some, find_some]
    let r : PairR → Bool := fun x => (sg.filter (stepsP rs x)).any fun c => q (stepP rs x c)
    have hr : ∀ e : EntP, ((nextP rs sg e).find? fun e => q e.2).isSome = r e.2 := fun e => by
      have hb : ∀ b c : Bool, (b = true ↔ c = true) → b = c := fun b c h => by
        cases b <;> cases c <;> simp at h ⊢
      refine hb _ _ ?_
      rw [List.find?_isSome]
      unfold nextP
      have : (∃ x, x ∈ (sg.filter (stepsP rs e.2)).map (fun c => (e.1 ++ c, stepP rs e.2 c)) ∧ q x.2 = true) ↔ r e.2 = true := by
        show _ ↔ ((sg.filter (stepsP rs e.2)).any fun c => q (stepP rs e.2 c)) = true
        rw [List.any_eq_true]
        constructor
        · rintro ⟨x, hx, h⟩
          obtain ⟨c, hc, rfl⟩ := List.mem_map.mp hx
          exact ⟨c, hc, h⟩
        · rintro ⟨c, hc, h⟩
          exact ⟨_, List.mem_map_of_mem hc, h⟩
      exact this
    have hr0 : ∀ x, r (x, x) = false := fun x => by
      show ((sg.filter (stepsP rs (x, x))).any fun c => q (stepP rs (x, x) c)) = false
      rw [List.any_eq_false]
      intro c _
      unfold stepP
      rw [hq]
      exact Bool.false_ne_true
    have e1 : (fun e : EntP => ((nextP rs sg e).find? fun e => q e.2).isSome) = fun e => r e.2 := funext hr
    rw [e1]
    have e2 : ((layQ rs sg p i).filter neP).find? (fun e => r e.2) = (layQ rs sg p i).find? fun e => r e.2 := by
      rw [List.find?_filter]
      congr 1
      funext e
      by_cases c : neP e = true
      · simp [c]
      · have h1 : e.2.1 = e.2.2 := by unfold neP at c; simpa using c
        have h2 : r e.2 = false := by
          have : e.2 = (e.2.1, e.2.1) := by rw [Prod.ext_iff]; exact ⟨rfl, h1.symm⟩
          rw [this]; exact hr0 _
        simp [c, h2]
    rw [e2, lay_same rs sg p i r hr0]
theorem first_same (rs : List Rule) (sg : List Str) (p : PairR) (k : Nat) : firstL (layQ rs sg p) k = firstL (layF rs sg p) k := by
  unfold firstL
  congr 1
  funext i
  rw [lay_same rs sg p i partsP fun x => by unfold partsP; simp]
/-! bounds -/
theorem nextP_len (rs : List Rule) (sg : List Str) (e : EntP) : (nextP rs sg e).length ≤ sg.length := by
  unfold nextP
  rw [List.length_map]
  exact List.length_filter_le _ _
theorem flat_lenP {α β : Type} {g : α → List β} {k : Nat} (h : ∀ a, (g a).length ≤ k) : ∀ l : List α, (l.flatMap g).length ≤ l.length * k
  | [] => Nat.zero_le _
  | a :: l => by
    have := h a
    have := flat_lenP h l
    rw [List.flatMap_cons, List.length_append, List.length_cons, Nat.add_mul]
    omega
theorem add_len : ∀ (l f : List EntP), (l.foldl addP f).length ≤ f.length + l.length
  | [], f => Nat.le_refl _
  | e :: l, f => by
    have := add_len l (addP f e)
    have h : (addP f e).length ≤ f.length + 1 := by
      unfold addP
      split
      · omega
      · rw [List.length_append, List.length_singleton]; omega
    rw [List.foldl_cons, List.length_cons]
    omega
theorem add_mem : ∀ (l f : List EntP) (e : EntP), e ∈ l.foldl addP f → e ∈ f ∨ e ∈ l
  | [], f, e, h => .inl h
  | x :: l, f, e, h => by
    rcases add_mem l _ e h with h | h
    · unfold addP at h
      split at h
      · exact .inl h
      · rcases List.mem_append.mp h with h | h
        · exact .inl h
        · rw [List.mem_singleton.mp h]; exact .inr List.mem_cons_self
    · exact .inr (List.mem_cons_of_mem _ h)
def EntOk (names : List Str) (k i : Nat) (e : EntP) : Prop := e.1.length ≤ i ∧ RowK names (k + 3 * i) e.2.1 ∧ RowK names (k + 3 * i) e.2.2
theorem RowK.step3 {names : List Str} {rs : List Rule} {k : Nat} {o : Row?} (h : RowK names k o) (hg : GoodR names rs) (c : Str) : RowK names (k + 3) (stepL rs o c) := fun r e => by
  refine ⟨stepL_in (fun r hr => (hg.ok r hr).2.2.2) (fun r e => (h r e).1) r e, ?_⟩
  unfold stepL at e
  match o, h with
  | none, _ => cases e
  | some [], _ => cases e
  | some (n :: t), h =>
    simp only at e
    cases h1 : byL rs n c with
    | none => rw [h1] at e; cases e
    | some p =>
      rw [h1] at e
      have e := Option.some.inj e
      have hp := (hg.ok _ (mem_rulesOf.mp (List.mem_of_find?_eq_some h1))).2.2.1
      have ht := (h _ rfl).2
      simp at hp ht
      rw [← e, List.length_append]
      omega
theorem nextP_ok {names : List Str} {rs : List Rule} {sg : List Str} {k i : Nat} {e : EntP} (hg : GoodR names rs) (h1 : ∀ c ∈ sg, c.length = 1) (h : EntOk names k i e) : ∀ x ∈ nextP rs sg e, EntOk names k (i + 1) x := fun x hx => by
  obtain ⟨c, hc, rfl⟩ := List.mem_map.mp hx
  obtain ⟨a, b, d⟩ := h
  have := h1 c (List.mem_filter.mp hc).1
  exact ⟨by rw [str_len]; omega, b.step3 hg c, d.step3 hg c⟩
theorem layF_ok {names : List Str} {rs : List Rule} {sg : List Str} {k : Nat} {p : PairR} (hg : GoodR names rs) (h1 : ∀ c ∈ sg, c.length = 1) (hp : RowK names k p.1 ∧ RowK names k p.2) : ∀ i, ∀ e ∈ layF rs sg p i, EntOk names k i e
  | 0, e, h => by rw [List.mem_singleton.mp h]; exact ⟨Nat.le_refl _, hp.1, hp.2⟩
  | i + 1, e, h => by
    obtain ⟨x, hx, h2⟩ := List.mem_flatMap.mp (show e ∈ (layF rs sg p i).flatMap (nextP rs sg) from h)
    exact nextP_ok hg h1 (layF_ok hg h1 hp i x hx) e h2
theorem layQ_ok {names : List Str} {rs : List Rule} {sg : List Str} {k : Nat} {p : PairR} (hg : GoodR names rs) (h1 : ∀ c ∈ sg, c.length = 1) (hp : RowK names k p.1 ∧ RowK names k p.2) : ∀ i, ∀ e ∈ layQ rs sg p i, EntOk names k i e
  | 0, e, h => by rw [List.mem_singleton.mp h]; exact ⟨Nat.le_refl _, hp.1, hp.2⟩
  | i + 1, e, h => by
    rcases add_mem _ _ e (show e ∈ (((layQ rs sg p i).filter neP).flatMap (nextP rs sg)).foldl addP [] from h) with h | h
    · cases h
    · obtain ⟨x, hx, h2⟩ := List.mem_flatMap.mp h
      exact nextP_ok hg h1 (layQ_ok hg h1 hp i x (List.mem_filter.mp hx).1) e h2
theorem layF_len (rs : List Rule) (sg : List Str) (p : PairR) : ∀ i, (layF rs sg p i).length ≤ sg.length ^ i
  | 0 => Nat.le_refl _
  | i + 1 => by
    have h := flat_lenP (nextP_len rs sg) (layF rs sg p i)
    rw [Nat.pow_succ]
    exact Nat.le_trans h (Nat.mul_le_mul_right _ (layF_len rs sg p i))
theorem layQ_len (rs : List Rule) (sg : List Str) (p : PairR) : ∀ i, (layQ rs sg p i).length ≤ sg.length ^ i
  | 0 => Nat.le_refl _
  | i + 1 => by
    have h := flat_lenP (nextP_len rs sg) ((layQ rs sg p i).filter neP)
    have h2 := add_len (((layQ rs sg p i).filter neP).flatMap (nextP rs sg)) []
    have h3 := List.length_filter_le neP (layQ rs sg p i)
    have h4 := layQ_len rs sg p i
    have h5 := Nat.mul_le_mul_right sg.length (Nat.le_trans h3 h4)
    rw [Nat.pow_succ]
    show (((layQ rs sg p i).filter neP).flatMap (nextP rs sg) |>.foldl addP []).length ≤ _
    rw [List.length_nil] at h2
    omega
/-! letters of both -/
def headsL (rs : List Rule) : Row? → List Str
  | some (n :: _) => (rulesOf rs n).map (·.1)
  | _ => []
theorem steps_iff {rs : List Rule} {o : Row?} {c : Str} : stepL rs o c ≠ none ↔ c ∈ headsL rs o := by
  match o with
  | none => simp [stepL, headsL]
  | some [] => simp [stepL, headsL]
  | some (n :: t) =>
    show (byL rs n c).map _ ≠ none ↔ c ∈ (rulesOf rs n).map (·.1)
    rw [ne_eq, Option.map_eq_none_iff]
    unfold byL
    rw [List.find?_eq_none, List.mem_map]
    constructor
    · intro h
      refine Classical.byContradiction fun g => h fun x hx e => g ⟨x, hx, by simpa using e⟩
    · rintro ⟨x, hx, rfl⟩ h
      exact h x hx (by simp)
def lettersP (rs : List Rule) (p : PairR) : List Str := ssort (once (headsL rs p.1 ++ headsL rs p.2))
theorem ssort_nd {xs : List Str} (h : xs.Nodup) : (ssort xs).Nodup := (ssort_perm xs).nodup_iff.mpr h
theorem letters_filter {rs : List Rule} {signs : List Str} (hs : ∀ r ∈ rs, r.2.1 ∈ signs) (nd : signs.Nodup) (p : PairR) : lettersP rs p = (ssort signs).filter (stepsP rs p) := by
  have e : ∀ c, c ∈ headsL rs p.1 ++ headsL rs p.2 ↔ stepsP rs p c = true := fun c => by
    rw [List.mem_append, ← steps_iff, ← steps_iff]
    unfold stepsP stepP
    rw [decide_eq_true_iff, ne_eq, ne_eq, ne_eq, Prod.mk.injEq]
    exact Decidable.not_and_iff_or_not.symm
  have hsub : ∀ c o, c ∈ headsL rs o → c ∈ signs := fun c o h => by
    match o with
    | none => cases h
    | some [] => cases h
    | some (n :: t) =>
      obtain ⟨q, hq, rfl⟩ := List.mem_map.mp (show c ∈ (rulesOf rs n).map (·.1) from h)
      exact hs _ (mem_rulesOf.mp hq)
  unfold lettersP
  have hp : (once (headsL rs p.1 ++ headsL rs p.2)).Perm (signs.filter (stepsP rs p)) := by
    refine (List.perm_ext_iff_of_nodup (once_nd _) (nd.filter _)).mpr fun c => ?_
    rw [once_memL, List.mem_filter, ← e]
    constructor
    · intro h
      refine ⟨?_, h⟩
      rcases List.mem_append.mp h with h | h
      · exact hsub c _ h
      · exact hsub c _ h
    · exact fun h => h.2
  rw [ssort_eq hp]
  have h2 : ((ssort signs).filter (stepsP rs p)).Perm (signs.filter (stepsP rs p)) := (ssort_perm signs).filter _
  exact ((ssort_perm _).trans h2.symm).eq_of_pairwise (fun _ _ _ _ => sle_anti) (ssort_pair _) ((ssort_pair signs).filter _)
/-! keys of pairs -/
def kO : Row? → NestedKey
  | none => .none
  | some r => kRow r
theorem kO_inj {a b : Row?} (h : kO a = kO b) : a = b := by
  cases a with
  | none => cases b with
    | none => rfl
    | some y => cases h
  | some x => cases b with
    | none => cases h
    | some y => rw [kRow_inj h]
def kP (p : PairR) : NestedKey := .tup [kO p.1, kO p.2]
theorem kP_inj {p q : PairR} (h : kP p = kP q) : p = q := by
  unfold kP at h
  have h := NestedKey.tup.inj h
  have h1 := (List.cons.inj h).1
  have h2 := (List.cons.inj (List.cons.inj h).2).1
  exact Prod.ext_iff.mpr ⟨kO_inj h1, kO_inj h2⟩
theorem depth_kP (p : PairR) : (kP p).depth ≤ 8 := by
  have g : ∀ o : Row?, (kO o).depth ≤ 1 := fun o => by
    cases o with
    | none => unfold kO; rw [NestedKey.depth]; omega
    | some r => unfold kO; rw [depth_row]; omega
  unfold kP
  rw [NestedKey.depth, NestedKey.depthAll, NestedKey.depthAll, NestedKey.depthAll]
  have h1 := g p.1
  have h2 := g p.2
  omega
theorem firstL_more {lay : Nat → List EntP} {k : Nat} {z : Str} (h : firstL lay k = some z) : ∀ d, firstL lay (k + d) = some z
  | 0 => h
  | d + 1 => by rw [← Nat.add_assoc, firstL_snoc, firstL_more h d]; rfl
theorem EntOk.mono {names : List Str} {k i k2 i2 : Nat} {e : EntP} (h : EntOk names k i e) (h1 : k ≤ k2) (h2 : i ≤ i2) : EntOk names k2 i2 e :=
  ⟨Nat.le_trans h.1 h2, fun r e => ⟨(h.2.1 r e).1, by have := (h.2.1 r e).2; omega⟩, fun r e => ⟨(h.2.2 r e).1, by have := (h.2.2 r e).2; omega⟩⟩
def optT : Option Str → V
  | none => .non
  | some z => .str z
theorem filter_snocP {α : Type} (p : α → Bool) (xs : List α) (x : α) : (xs ++ [x]).filter p = if p x = true then xs.filter p ++ [x] else xs.filter p := by
  rw [List.filter_append, List.filter_cons, List.filter_nil]
  split
  · rfl
  · rw [List.append_nil]
end SG
/-! a name with the rules of another one -/
namespace SG
open PySem PySem.Spec PyProof.Rows L2
theorem rulesOf_app (rs qs : List Rule) (n : Str) : rulesOf (rs ++ qs) n = rulesOf rs n ++ rulesOf qs n := by
  unfold rulesOf
  rw [List.filter_append, List.map_append]
theorem rulesOf_none {names : List Str} {rs : List Rule} (g : GoodR names rs) {n : Str} (h : n ∉ names) : rulesOf rs n = [] := by
  unfold rulesOf
  rw [List.filter_eq_nil_iff.mpr (fun r hr e => h (by rw [← of_decide_eq_true e]; exact (g.ok r hr).1))]
  rfl
structure LikeR (names base : List Str) (rs : List Rule) (n : Str) (new : List Rule) : Prop where
  one : ∃ o ∈ base, new.map (·.2.1) = (rulesOf rs o).map (·.1)
  row : ∀ r ∈ new, r.1 = n ∧ r.2.2.length ≤ 3 ∧ ∀ x ∈ r.2.2, x ∈ names
theorem rulesOf_all {n : Str} : ∀ {new : List Rule}, (∀ r ∈ new, r.1 = n) → rulesOf new n = new.map (·.2)
  | [], _ => rfl
  | r :: new, h => by
    have ih := rulesOf_all (new := new) fun x hx => h x (List.mem_cons_of_mem _ hx)
    unfold rulesOf at ih ⊢
    rw [List.filter_cons, if_pos (decide_eq_true (h r List.mem_cons_self)), List.map_cons, ih, List.map_cons]
theorem rulesOf_other {n m : Str} (hm : m ≠ n) : ∀ {new : List Rule}, (∀ r ∈ new, r.1 = n) → rulesOf new m = [] := fun {new} h => by
  unfold rulesOf
  rw [List.filter_eq_nil_iff.mpr (fun r hr e => hm (by rw [← of_decide_eq_true e]; exact h r hr))]
  rfl
theorem EndsR.adds {names : List Str} {rs : List Rule} : ∀ {new : List Rule}, EndsR names rs → EndsR names (rs ++ new)
  | [], h => by rw [List.append_nil]; exact h
  | r :: new, h => by
    have := EndsR.adds (new := new) (h.more r)
    rw [List.append_assoc] at this
    exact this
theorem LikeR.good {names base : List Str} {rs new : List Rule} {n : Str} (g : GoodR names rs) (p : PlainR rs) (e : EndsR names rs) (hn : n ∉ names) (hb : ∀ x ∈ base, x ∈ names) (h : LikeR names base rs n new) :
    GoodR (names ++ [n]) (rs ++ new) ∧ PlainR (rs ++ new) ∧ EndsR (names ++ [n]) (rs ++ new) ∧ (∀ r ∈ new, ∃ u ∈ rs, u.2.1 = r.2.1) ∧ new.length ≤ 4 := by
  obtain ⟨o, ho, hl⟩ := h.one
  have hlen : new.length = (rulesOf rs o).length := by
    have := congrArg List.length hl
    rw [List.length_map, List.length_map] at this
    exact this
  have hfew := g.few o
  have hnl : (new.map (·.2.1)).Nodup := by rw [hl]; exact p o
  have hlet : ∀ r ∈ new, ∃ u ∈ rs, u.2.1 = r.2.1 := fun r hr => by
    have h1 : r.2.1 ∈ new.map (·.2.1) := List.mem_map_of_mem hr
    rw [hl] at h1
    obtain ⟨q, hq, e1⟩ := List.mem_map.mp h1
    exact ⟨_, mem_rulesOf.mp hq, e1⟩
  have hfst : ∀ r ∈ new, r.1 = n := fun r hr => (h.row r hr).1
  have hne : new ≠ [] := fun z => by
    have h1 := ends_rules e (hb o ho)
    rw [z] at hlen
    exact h1 (List.length_eq_zero_iff.mp hlen.symm)
  refine ⟨⟨?_, fun r hr => ?_, fun m => ?_⟩, fun m => ?_, ?_, hlet, by omega⟩
  · rw [List.nodup_append]
    refine ⟨g.nd, (List.pairwise_map.mp hnl).imp fun h e => h (by rw [e]), fun a ha b hb2 e1 => hn ?_⟩
    rw [← hfst b hb2, ← e1]
    exact (g.ok a ha).1
  · rcases List.mem_append.mp hr with hr | hr
    · obtain ⟨a, b, c, d⟩ := g.ok r hr
      exact ⟨List.mem_append_left _ a, b, c, fun x hx => List.mem_append_left _ (d x hx)⟩
    · obtain ⟨a, b, c⟩ := h.row r hr
      obtain ⟨u, hu, e1⟩ := hlet r hr
      refine ⟨by rw [a]; simp, by rw [← e1]; exact (g.ok u hu).2.1, b, fun x hx => List.mem_append_left _ (c x hx)⟩
  · rw [rulesOf_app]
    by_cases c : m = n
    · rw [c, rulesOf_none g hn, rulesOf_all hfst, List.nil_append, List.length_map]
      omega
    · rw [rulesOf_other c hfst, List.append_nil]
      exact g.few m
  · rw [rulesOf_app]
    by_cases c : m = n
    · rw [c, rulesOf_none g hn, rulesOf_all hfst, List.nil_append, List.map_map]
      exact hnl
    · rw [rulesOf_other c hfst, List.append_nil]
      exact p m
  · cases new with
    | nil => exact absurd rfl hne
    | cons r0 rest =>
      have h1 := e.put (r := r0) (h.row r0 List.mem_cons_self).2.2
      rw [hfst r0 List.mem_cons_self] at h1
      have h2 := h1.adds (new := rest)
      rw [List.append_assoc] at h2
      exact h2
theorem cut_negk (xs : List V) (k : Nat) (h0 : 0 < k) (h : k ≤ xs.length) : cutV xs none (some (-(k : Int))) = xs.take (xs.length - k) := by
  unfold cutV
  have e1 : HT.sIx xs.length 0 none = 0 := rfl
  have e2 : HT.sIx xs.length xs.length (some (-(k : Int))) = xs.length - k := by
    show (if (-(k : Int)) < 0 then ((-(k : Int)) + (xs.length : Int)).toNat else min (-(k : Int)).toNat xs.length) = _
    rw [if_pos (by omega)]
    omega
  rw [e1, e2, List.drop_zero, Nat.sub_zero]
theorem paired_set {α β : Type} {F : α → β → Prop} : ∀ {xs : List α} {ys : List β} (i : Nat) {x : α} {y : β}, Paired F xs ys → F x y → Paired F (xs.set i x) (ys.set i y)
  | _, _, _, _, _, .nil, _ => .nil
  | _, _, 0, _, _, .cons _ t, h => .cons h t
  | _, _, i + 1, _, _, .cons a t, h => .cons a (paired_set i t h)
/-! what the first parting word is -/
theorem byLs_nil (rs : List Rule) (o : Row?) : byLs rs o "" = o := by
  unfold byLs
  rw [signs_nil]
  rfl
theorem layF_is {rs : List Rule} {sg : List Str} {p : PairR} (h1 : ∀ c ∈ sg, c.length = 1) : ∀ i, ∀ e ∈ layF rs sg p i, e.2 = (byLs rs p.1 e.1, byLs rs p.2 e.1)
  | 0, e, h => by
    rw [List.mem_singleton.mp h]
    show p = (byLs rs p.1 "", byLs rs p.2 "")
    rw [byLs_nil, byLs_nil]
  | i + 1, e, h => by
    obtain ⟨x, hx, h2⟩ := List.mem_flatMap.mp (show e ∈ (layF rs sg p i).flatMap (nextP rs sg) from h)
    have ih := layF_is h1 i x hx
    obtain ⟨c, hc, rfl⟩ := List.mem_map.mp h2
    have hc1 := h1 c (List.mem_filter.mp hc).1
    show stepP rs x.2 c = (byLs rs p.1 (x.1 ++ c), byLs rs p.2 (x.1 ++ c))
    rw [byLs_app hc1, byLs_app hc1, ih]
    rfl
def swapE (e : EntP) : EntP := (e.1, e.2.2, e.2.1)
theorem nextP_swap (rs : List Rule) (sg : List Str) (e : EntP) : nextP rs sg (swapE e) = (nextP rs sg e).map swapE := by
  unfold nextP
  rw [List.map_map]
  have e1 : stepsP rs (swapE e).2 = stepsP rs e.2 := by
    funext c
    unfold stepsP stepP swapE
    by_cases a : stepL rs e.2.1 c = none <;> by_cases b : stepL rs e.2.2 c = none <;> simp [a, b]
  rw [e1]
  rfl
theorem layF_swap (rs : List Rule) (sg : List Str) (a b : Row?) : ∀ i, layF rs sg (b, a) i = (layF rs sg (a, b) i).map swapE
  | 0 => rfl
  | i + 1 => by
    show (layF rs sg (b, a) i).flatMap (nextP rs sg) = ((layF rs sg (a, b) i).flatMap (nextP rs sg)).map swapE
    rw [layF_swap rs sg a b i, List.flatMap_map, List.map_flatMap]
    congr 1
    funext e
    exact nextP_swap rs sg e
theorem first_swap (rs : List Rule) (sg : List Str) (a b : Row?) (k : Nat) : firstL (layF rs sg (b, a)) k = firstL (layF rs sg (a, b)) k := by
  unfold firstL
  congr 1
  funext i
  rw [layF_swap, List.find?_map]
  have e1 : ((fun e : EntP => partsP e.2) ∘ swapE) = fun e => partsP e.2 := by
    funext e
    show partsP (e.2.2, e.2.1) = partsP e.2
    unfold partsP
    cases decide (e.2.1 = some []) <;> cases decide (e.2.2 = some []) <;> rfl
  rw [e1, Option.map_map]
  rfl
theorem layF_eq {rs : List Rule} {sg : List Str} {x : Row?} : ∀ i, ∀ e ∈ layF rs sg (x, x) i, e.2.1 = e.2.2
  | 0, e, h => by rw [List.mem_singleton.mp h]
  | i + 1, e, h => by
    obtain ⟨y, hy, h2⟩ := List.mem_flatMap.mp (show e ∈ (layF rs sg (x, x) i).flatMap (nextP rs sg) from h)
    have ih := layF_eq i y hy
    obtain ⟨c, hc, rfl⟩ := List.mem_map.mp h2
    show stepL rs y.2.1 c = stepL rs y.2.2 c
    rw [ih]
theorem first_eq (rs : List Rule) (sg : List Str) (x : Row?) (k : Nat) : firstL (layF rs sg (x, x)) k = none := by
  unfold firstL
  rw [List.findSome?_eq_none_iff]
  intro i _
  rw [Option.map_eq_none_iff, List.find?_eq_none]
  intro e he
  have h := layF_eq i e he
  unfold partsP
  rw [h]
  simp
theorem first_parts {lay : Nat → List EntP} {k : Nat} {z : Str} (h : firstL lay k = some z) : ∃ i e, i < k ∧ e ∈ lay i ∧ partsP e.2 = true ∧ e.1 = z := by
  unfold firstL at h
  obtain ⟨i, hi, h2⟩ := List.exists_of_findSome?_eq_some h
  rw [Option.map_eq_some_iff] at h2
  obtain ⟨e, he, h3⟩ := h2
  exact ⟨i, e, List.mem_range.mp hi, List.mem_of_find?_eq_some he, (List.find?_some (p := fun e : EntP => partsP e.2) he), h3⟩
def eOT : Option Str → PyData
  | none => .none
  | some z => .str z
theorem enc_OT : Enc eOT := fun a b => by
  cases a with
  | none => cases b <;> simp [eOT, PyData.eqv]
  | some x => cases b with
    | none => simp [eOT, PyData.eqv]
    | some y =>
      show PyData.eqv (.str x) (.str y) = _
      rw [enc_str]
      by_cases c : x = y <;> simp [c]
theorem dep_OT (a : Option Str) : (eOT a).depth ≤ 60 := by
  cases a with
  | none => show PyData.depth .none ≤ 60; rw [PyData.depth]; omega
  | some r => show PyData.depth (.str r) ≤ 60; rw [PyData.depth]; omega
theorem dp_OT {K : PySem.W.Frag} {H : Hp} (o : Option Str) : Dp K H (optT o) (eOT o) := by
  cases o with
  | none => exact .non
  | some z => exact .str z
theorem pow_few {n m i : Nat} (h : (n ≤ 2 ∧ m ≤ 8) ∨ (n ≤ 3 ∧ m ≤ 6)) (hi : i ≤ m + 1) : n ^ i ≤ 20000 := by
  rcases h with ⟨h1, h2⟩ | ⟨h1, h2⟩
  · refine Nat.le_trans (Nat.pow_le_pow_left h1 i) (Nat.le_trans (Nat.pow_le_pow_right (by decide) (show i ≤ 9 by omega)) (by decide))
  · refine Nat.le_trans (Nat.pow_le_pow_left h1 i) (Nat.le_trans (Nat.pow_le_pow_right (by decide) (show i ≤ 7 by omega)) (by decide))
end SG
/-! a letter many times; sorted(x, key=lambda p: p[::-1]) of texts -/
namespace SG
open PySem PySem.Spec PyProof.Rows L2 LamX
/-- a sign n times -/
def repS (c n : Nat) : Str := ⟨(List.replicate n c).toArray⟩
theorem rep_fold (c : Nat) : ∀ (k : Nat) (acc : Array Nat), (List.replicate k #[c]).foldl (· ++ ·) acc = acc ++ (List.replicate k c).toArray
  | 0, acc => by simp
  | k + 1, acc => by
    rw [List.replicate_succ, List.foldl_cons, rep_fold c k, List.replicate_succ, Array.append_assoc]
    refine congrArg (acc ++ ·) ?_
    exact Array.ext' (by simp)
theorem mul_rep (c : Nat) {n : Int} (h : 1 ≤ n) : Txt.mul ⟨#[c]⟩ n = repS c n.toNat := by
  unfold Txt.mul repS
  rw [if_neg (by omega)]
  by_cases c1 : n = 1
  · subst c1; rfl
  · rw [if_neg (by
      have e : ((⟨#[c]⟩ : Str).length == 0) = false := rfl
      rw [e, Bool.or_false]
      simpa using c1), rep_fold]
    simp
section
variable {X : Cx}
theorem op_repS : OpR X (binaryOp .Mult) (fun x y H Q => ∃ (c : Nat) (n : Int), x = .str ⟨#[c]⟩ ∧ y = .int n ∧ 1 ≤ n ∧ n ≤ 1000 ∧ Q (.str (repS c n.toNat)) H) := by
  intro pins s σ H x y v u Q I rx ry h
  obtain ⟨c, n, rfl, rfl, h1, h2, q⟩ := h
  obtain ⟨t, rfl⟩ := rx
  obtain ⟨t', rfl⟩ := ry
  rw [← mul_rep c h1] at q
  refine SB.mul ⟨?_, fun _ _ => ?_, fun _ _ => ?_⟩ fun t' k => ⟨.str _, H, I.tok _, ⟨_, rfl⟩, q⟩
  · rw [decide_eq_false (by omega), decide_eq_false (by omega)]; rfl
  · have e : ((⟨#[c]⟩ : Str).length : Int) = 1 := rfl
    rw [e]
    have : 1 ≤ (2 ^ 63 - 1 : Int) / n := (Int.le_ediv_iff_mul_le (by omega)).mpr (by omega)
    omega
  · have e : (⟨#[c]⟩ : Str).length = 1 := rfl
    rw [e, Nat.one_mul]
    show decide (n.toNat > sizeLine) = false
    rw [sizeLine_eq]
    exact decide_eq_false (by omega)
end
section
variable {β : Type}
def RS (kx : β → Str) (h : Heap) (v : Value) (b : β) : Prop := ∃ tk, v = .str (kx b) tk ∧ (kx b).length ≤ 1000
def RVS (kx : β → Str) (H : Hp) (v : V) (b : β) : Prop := v = .str (kx b) ∧ (kx b).length ≤ 1000
def revS (x : Str) : Str := Txt.sliceBy x none none (-1, 0)
theorem keyB_rev {prog : Program} {w : World} {scope : Scope} {x : Str} {kx : β → Str} {p1 p2 p3 p4 p5 : Pos} {j : Nat} (hk : scope.kind = .function) (hl : scope.names.lookup x = some .local) (hd : (x == ("__debug__" : Str)) = false) :
    KeyB prog w scope (.Subscript (.Name x p1) (.Slice none none (some (.UnaryOp .USub (.Constant (.int 1) j p2) p3)) p4) p5) x (fun b => PyData.str (revS (kx b))) (RS kx) := by
  intro cenv A' E' v b s m hsc hR hn hm
  obtain ⟨tk, rfl, hz⟩ := hR
  subst hsc
  refine Subscript_ (wpAny_Name (wpAny_loadName_local hk hl hn hm ?_) hd)
  refine wpAny_Slice (evalPart_none_step (evalPart_none_step (evalPart_some_step (UnaryOp_ (wpAny_Constant_int ?_)))))
  refine neg_int ?_
  refine tail_of_ItemOn ⟨"str", _, F.slot_str_getitem.lookup, typeIs_str _ _ _, wpAny_getItem_str_slice (l := none) (u := none) (st := some (-1, _)) ⟨_, Heap.get?_push_size _ rfl, rfl, rfl⟩ rfl
    (post_val_or_str ⟨?_, fun t' c => ?_⟩)⟩ (by with_unfolding_all rfl) (by intro _; with_unfolding_all rfl)
  · have h1 := Txt.sliceBy_le (kx b) none none ((-1 : Int), (0 : Tok)) (by decide)
    have h2 : (kx b).length ≤ sizeLine := by rw [sizeLine_eq]; omega
    exact Nat.le_trans h1 h2
  · exact ⟨_, _, rfl, fun _ _ e => Heap.get?_push_of_some _ e, .str _ _⟩
theorem rs_keeps {kx : β → Str} {h h' : Heap} {v : Value} {b : β} (k : ∀ a o, h.get? a = some o → h'.get? a = some o) (r : RS kx h v b) : RS kx h' v b := r
theorem rs_of {X : Cx} {kx : β → Str} {pins : List (Addr × Obj)} {s : Shared} {σ : L2.St} {H : Hp} {v : V} {u : Value} {b : β} (I : Inv X pins σ H s) (r : RelV v u) (h : RVS kx H v b) : RS kx s.heap u b := by
  obtain ⟨rfl, hz⟩ := h
  obtain ⟨t, rfl⟩ := r
  exact ⟨t, rfl, hz⟩
theorem rvs_ext {kx : β → Str} {H H' : Hp} {v : V} {b : β} (e : ExtN H H') (h : RVS kx H v b) : RVS kx H' v b := h
end
/-- the keyed sort of texts is one of their orders -/
theorem sKey_strs (key : Str → PyData) (xs : List Str) : ∃ ys : List Str, ys.Perm xs ∧ sKey key (xs.map V.str) xs = ys.map V.str := by
  unfold sKey
  have hp : (((xs.map V.str).zip xs).mergeSort (PySem.W.dataLe false fun p : V × Str => key p.2)).Perm ((xs.map V.str).zip xs) := List.mergeSort_perm _ _
  have hp2 := hp.map Prod.fst
  rw [List.map_fst_zip (by rw [List.length_map]; exact Nat.le_refl _)] at hp2
  obtain ⟨ys, e, hy⟩ := perm_strs hp2
  exact ⟨ys, hy, e⟩
end SG
/-! drawn worlds: the third kind of the laws' draws -/
namespace SG
open PySem PySem.Spec PyProof.Rows L2 LamX
/-- a well whose second number is a remainder -/
def WellC (H : Hp) (s : Addr) (n : Nat) : Prop := WellAt H s n ∧ ∃ a b c : Int, H s = some (.lst [.int a, .int b, .int c]) ∧ 0 ≤ b ∧ b < 2147483647
variable {H H' H1 H2 : Hp} {s : Addr} {n m : Nat}
theorem WellC.mono (h : WellC H s n) (hm : n ≤ m) : WellC H s m := ⟨h.1.mono hm, h.2⟩
theorem WellC.same (h : WellC H s n) (e : Same H H') : WellC H' s n := by
  obtain ⟨h1, a, b, c, h2, h3⟩ := h
  exact ⟨h1.same e, a, b, c, e _ _ h2, h3⟩
theorem WellC.cell {p : Addr} (h : WellC H s n) {o : HO} (h0 : WellC H1 s m) (hp : H1 p = Option.none) : WellC (upd H p o) s n := by
  obtain ⟨h1, a, b, c, h2, h3⟩ := h
  obtain ⟨os, g2⟩ := h0.1.some
  exact ⟨h1.cell h0.1 hp, a, b, c, by rw [upd_ne (ne_of_none g2 hp)]; exact h2, h3⟩
theorem WellC.nums (h : WellC H s n) : ∃ a b c : Int, H s = some (.lst [.int a, .int b, .int c]) ∧ 0 ≤ a ∧ 0 ≤ b ∧ b < 2147483647 ∧ 0 ≤ c ∧ c ≤ (n : Int) := by
  obtain ⟨⟨a, b, c, h1, h2, h3, h4⟩, a', b', c', g1, g2, g3⟩ := h
  rw [h1] at g1
  have e := HO.lst.inj (Option.some.inj g1)
  have e1 := V.int.inj (List.cons.inj (List.cons.inj e).2).1
  exact ⟨a, b, c, h1, h2, by omega, by omega, h3, h4⟩
theorem wellC_of {a b c : Int} (h : H s = some (.lst [.int a, .int b, .int c])) (ha : 0 ≤ a) (hb : 0 ≤ b) (hb2 : b < 2147483647) (hc : 0 ≤ c) (hn : c ≤ (n : Int)) : WellC H s n := ⟨⟨a, b, c, h, ha, hc, hn⟩, a, b, c, h, hb, hb2⟩
def sp_wellC : Sp := fun vs H Q _ => ∃ c : Int, vs = [.int c] ∧ ∀ p H', H p = none → Same H H' → WellC H' p 0 → Q (.ref p) H'
def sp_drawC : Sp := fun vs H Q _ => ∃ (s : Addr) (k : Int) (n : Nat), vs = [.ref s, .int k] ∧ WellC H s n ∧ n ≤ 1000000000 ∧ 0 < k ∧ k < 1073741824 ∧ ∀ (j : Int) H', 0 ≤ j → j < k → But s H H' → WellC H' s (n + 1) → Q (.int j) H'
/-- some of the names, m at most -/
def sp_some : Sp := fun vs H Q _ => ∃ (s a : Addr) (m n : Nat) (xs : List Str), vs = [.ref s, .ref a, .int m] ∧ m ≤ 100 ∧ WellC H s n ∧ n ≤ 100000000 ∧ H a = some (.lst (xs.map V.str)) ∧ 0 < xs.length ∧ xs.length ≤ 1000 ∧ ∀ p H' (row : List Str), H p = none → But s H H' → WellC H' s (n + 1 + m) → H' p = some (.lst (row.map V.str)) → row.length ≤ m → (∀ x ∈ row, x ∈ xs) → Q (.ref p) H'
def sp_chain : Sp := fun vs H Q _ => ∃ (s : Addr) (m n : Nat), vs = [.ref s, .int m] ∧ 1 ≤ m ∧ m ≤ 6 ∧ WellC H s n ∧ n ≤ 100000000 ∧ ∀ p H' (xs : List Str), H p = none → But s H H' → WellC H' s (n + 1 + 2 * m) → H' p = some (.lst (xs.map V.str)) → areNames xs = true → xs.length = m → Q (.ref p) H'
/-! names of one letter, many times -/
theorem rep_name : ∀ c, c < 26 → ∀ k, k < 8 → isName (repS (97 + c) (k + 1)) = true := by decide +kernel
theorem rep_inj {c d k l : Nat} (h : repS c (k + 1) = repS d l) : c = d := by
  have e := congrArg (fun z : Str => z.cps.toList) h
  have e : List.replicate (k + 1) c = List.replicate l d := by
    have e : (repS c (k + 1)).cps.toList = (repS d l).cps.toList := e
    simpa [repS] using e
  cases l with
  | zero => rw [List.replicate_succ, List.replicate_zero] at e; cases e
  | succ l =>
    rw [List.replicate_succ, List.replicate_succ] at e
    exact (List.cons.inj e).1
/-- the i-th of a chain's texts before they are mixed -/
def ChainB (f : Int) (i : Nat) (x : Str) : Prop := ∃ k, k < 8 ∧ x = repS (97 + ((f + 7 * (i : Int)) % 26).toNat) (k + 1)
theorem chain_names {xs : List Str} {f : Int} (h : ∀ i x, xs[i]? = some x → ChainB f i x) (h1 : 1 ≤ xs.length) (h6 : xs.length ≤ 6) : areNames xs = true := by
  unfold areNames
  rw [decide_eq_true h1, decide_eq_true h6, decide_eq_true (p := xs.Nodup) ?_]
  · show (true && xs.all isName) = true
    rw [Bool.true_and, List.all_eq_true]
    intro x hx
    obtain ⟨i, hi⟩ := List.mem_iff_getElem?.mp hx
    obtain ⟨k, hk, rfl⟩ := h i x hi
    exact rep_name _ (by omega) k hk
  · refine List.pairwise_iff_getElem.mpr fun i j hi hj hij e => ?_
    obtain ⟨k, hk, e1⟩ := h i _ (List.getElem?_eq_getElem hi)
    obtain ⟨l, hl, e2⟩ := h j _ (List.getElem?_eq_getElem hj)
    rw [e1, e2] at e
    have := rep_inj e
    omega
theorem abc_sign {i : Int} (h0 : 0 ≤ i) (h1 : i < 26) : (abcS.cps[i.toNat]?) = some (97 + i.toNat) := by
  have e : abcS.cps[i.toNat]? = abcS.cps.toList[i.toNat]? := by rw [Array.getElem?_toList]
  rw [e, abcL, List.getElem?_map, List.getElem?_range (by omega)]
  rfl
/-! dicts of lists of steps while they are made -/
/-- nothing that a list of steps is made of -/
def Alien (H : Hp) (z : Addr) : Prop := ∀ o, H z = some o → (∀ ts : List Addr, ts ≠ [] → o ≠ .lst (ts.map V.ref)) ∧ (∀ vs, o ≠ .tup vs) ∧ ∀ ss : List Str, o ≠ .lst (ss.map V.str)
theorem alien_well (h : WellAt H s n) : Alien H s := fun o ho => ⟨fun ts _ e => h.ne_refs (e ▸ ho) rfl, fun vs e => h.ne_tup (e ▸ ho) rfl, fun ss e => h.ne_strs (e ▸ ho) rfl⟩
theorem alien_dk {d : Addr} {kvs : List (Key × V)} (h : H d = some (.dK kvs)) : Alien H d := fun o ho => by
  rw [h] at ho
  obtain rfl := Option.some.inj ho
  exact ⟨fun _ _ e => (by cases e), fun _ e => (by cases e), fun _ e => (by cases e)⟩
theorem alien_none {d : Addr} (h : H d = none) : Alien H d := fun o ho => by
  rw [h] at ho
  cases ho
theorem alien_refs {d : Addr} {ts : List Addr} (h : H d = some (.lst (ts.map V.ref))) (hne : ts ≠ []) : (∀ vs, H d ≠ some (.tup vs)) ∧ ∀ ss : List Str, H d ≠ some (.lst (ss.map V.str)) := by
  rw [h]
  refine ⟨fun vs e => (by cases e), fun ss e => ?_⟩
  have e := HO.lst.inj (Option.some.inj e)
  cases ts with
  | nil => exact hne rfl
  | cons t ts => cases ss with
    | nil => cases e
    | cons x ss => cases e
theorem ListAt.alien {l z : Addr} {ps : List Step} (h : ListAt H l ps) (hne : ps ≠ []) (hz : Alien H z) (k : But z H H') : ListAt H' l ps := by
  obtain ⟨ts, h1, h2⟩ := h
  have hts : ts ≠ [] := fun e => by
    subst e
    cases h2
    exact hne rfl
  refine ⟨ts, k _ _ (fun e => (hz _ (e ▸ h1)).1 ts hts rfl) h1, Paired.mapP h2 fun t p ⟨w, h3, h4⟩ => ⟨w, k _ _ (fun e => (hz _ (e ▸ h3)).2.1 _ rfl) h3, k _ _ (fun e => (hz _ (e ▸ h4)).2.2 _ rfl) h4⟩⟩
/-- another list of references changes -/
theorem ListAt.refs {l z : Addr} {ps : List Step} {ts : List Addr} (h : ListAt H l ps) (hz : H z = some (.lst (ts.map V.ref))) (hne : ts ≠ []) (nl : l ≠ z) (k : But z H H') : ListAt H' l ps := by
  obtain ⟨us, h1, h2⟩ := h
  obtain ⟨a1, a2⟩ := alien_refs hz hne
  exact ⟨us, k _ _ nl h1, Paired.mapP h2 fun t p ⟨w, h3, h4⟩ => ⟨w, k _ _ (fun e => a1 _ (e ▸ h3)) h3, k _ _ (fun e => a2 _ (e ▸ h4)) h4⟩⟩
def RulesT (H0 H : Hp) (rd : Addr) (ns : List Str) (ls : List Addr) (gs : List (List Step)) : Prop :=
  H rd = some (.dK (zipK ns ls)) ∧ ls.length = ns.length ∧ ls.Nodup ∧ Paired (fun l ps => H0 l = none ∧ ps ≠ [] ∧ ListAt H l ps) ls gs
variable {H0 : Hp} {rd : Addr} {ns : List Str} {ls : List Addr} {gs : List (List Step)}
theorem RulesT.same (h : RulesT H0 H rd ns ls gs) (e : Same H H') : RulesT H0 H' rd ns ls gs := ⟨e _ _ h.1, h.2.1, h.2.2.1, Paired.mapP h.2.2.2 fun _ _ ⟨a, b, c⟩ => ⟨a, b, c.same e⟩⟩
theorem RulesT.alien {z : Addr} (h : RulesT H0 H rd ns ls gs) (hz : Alien H z) (nz : rd ≠ z) (k : But z H H') : RulesT H0 H' rd ns ls gs := ⟨k _ _ nz h.1, h.2.1, h.2.2.1, Paired.mapP h.2.2.2 fun _ _ ⟨a, b, c⟩ => ⟨a, b, c.alien b hz k⟩⟩
theorem RulesT.but (h : RulesT H0 H rd ns ls gs) (w : WellAt H s n) (b : But s H H') : RulesT H0 H' rd ns ls gs := h.alien (alien_well w) (w.ne_dk h.1) b
theorem zipK_snoc : ∀ (ns : List Str) (ls : List Addr) (n : Str) (l : Addr), ls.length = ns.length → zipK (ns ++ [n]) (ls ++ [l]) = zipK ns ls ++ [((Sum.inr n : Key), V.ref l)]
  | [], [], n, l, _ => rfl
  | [], _ :: _, n, l, h => by cases h
  | _ :: _, [], n, l, h => by cases h
  | a :: ns, b :: ls, n, l, h => by
    show _ :: zipK (ns ++ [n]) (ls ++ [l]) = _
    rw [zipK_snoc ns ls n l (Nat.succ.inj h)]
    rfl
theorem zipK_new {n : Str} (h : ls.length = ns.length) (hn : n ∉ ns) (l : Addr) : putK (zipK ns ls) (Sum.inr n : Key) (.ref l) = zipK (ns ++ [n]) (ls ++ [l]) := by
  rw [zipK_snoc _ _ _ _ h]
  refine putK_new _ ?_
  rcases zipK_val h.symm n with ⟨e, _⟩ | ⟨_, _, _, _, _, h2⟩
  · exact e
  · exact absurd h2 hn
theorem zipK_len (h : ls.length = ns.length) : (zipK ns ls).length = ns.length := by
  unfold zipK
  rw [List.length_zipWith, h, Nat.min_self]
theorem zipK_map (k : Str) (l : Addr) : ∀ (ns : List Str) (ls : List Addr) (i : Nat), ls.length = ns.length → ns.Nodup → ns[i]? = some k → (zipK ns ls).map (fun kv => if kv.1 = (Sum.inr k : Key) then (kv.1, V.ref l) else kv) = zipK ns (ls.set i l)
  | [], ls, i, h, nd, hi => by simp at hi
  | a :: ns, [], i, h, nd, hi => by cases h
  | a :: ns, b :: ls, 0, h, nd, hi => by
    have e := Option.some.inj hi
    subst e
    show (if (Sum.inr a : Key) = Sum.inr a then ((Sum.inr a : Key), V.ref l) else _) :: (zipK ns ls).map _ = (Sum.inr a, V.ref l) :: zipK ns ls
    rw [if_pos rfl]
    refine congrArg _ ?_
    conv => rhs; rw [← List.map_id (zipK ns ls)]
    refine List.map_congr_left fun kv hkv => ?_
    have hm : ∃ x ∈ ns, kv.1 = (Sum.inr x : Key) := by
      obtain ⟨i, hi⟩ := List.mem_iff_getElem?.mp hkv
      unfold zipK at hi
      rw [List.getElem?_zipWith] at hi
      cases h1 : ns[i]? with
      | none => rw [h1] at hi; cases hi
      | some x =>
        cases h2 : ls[i]? with
        | none => rw [h1, h2] at hi; cases hi
        | some y =>
          rw [h1, h2] at hi
          exact ⟨x, List.mem_of_getElem? h1, by rw [← Option.some.inj hi]⟩
    obtain ⟨x, hx, e⟩ := hm
    rw [e, if_neg]
    · rfl
    · intro z
      have z := Sum.inr.inj z
      subst z
      exact (List.nodup_cons.mp nd).1 hx
  | a :: ns, b :: ls, i + 1, h, nd, hi => by
    have hk : ns[i]? = some k := hi
    show (if (Sum.inr a : Key) = Sum.inr k then ((Sum.inr a : Key), V.ref l) else ((Sum.inr a : Key), V.ref b)) :: (zipK ns ls).map _ = (Sum.inr a, V.ref b) :: zipK ns (ls.set i l)
    have hak : ¬ ((Sum.inr a : Key) = Sum.inr k) := fun z => by
      have z := Sum.inr.inj z
      subst z
      exact (List.nodup_cons.mp nd).1 (List.mem_of_getElem? hk)
    rw [if_neg hak, zipK_map k l ns ls i (Nat.succ.inj h) (List.nodup_cons.mp nd).2 hk]
theorem zipK_set {k : Str} {i : Nat} (h : ls.length = ns.length) (nd : ns.Nodup) (hi : ns[i]? = some k) (l : Addr) : putK (zipK ns ls) (Sum.inr k : Key) (.ref l) = zipK ns (ls.set i l) := by
  unfold putK
  rw [if_pos]
  · exact zipK_map k l ns ls i h nd hi
  · rw [List.any_eq_true]
    rcases zipK_val h.symm k with ⟨_, e⟩ | ⟨j, y, h1, h2, _, _⟩
    · exact absurd (List.mem_of_getElem? hi) e
    · refine ⟨((Sum.inr k : Key), V.ref y), ?_, decide_eq_true rfl⟩
      refine List.mem_of_getElem? (i := j) ?_
      unfold zipK
      rw [List.getElem?_zipWith, h1, h2]
theorem RulesT.put {n : Str} {l : Addr} {ps : List Step} (h : RulesT H0 H rd ns ls gs) (hl : ListAt H l ps) (hne : ps ≠ []) (hl0 : H0 l = none) (ll : l ∉ ls) (hn : n ∉ ns) : RulesT H0 (upd H rd (.dK (putK (zipK ns ls) (Sum.inr n : Key) (.ref l)))) rd (ns ++ [n]) (ls ++ [l]) (gs ++ [ps]) := by
  have k : But rd H (upd H rd (.dK (putK (zipK ns ls) (Sum.inr n : Key) (.ref l)))) := (But.refl rd H).own _
  refine ⟨by rw [upd_same, zipK_new h.2.1 hn], by rw [List.length_append, List.length_append, h.2.1]; rfl, ?_, ?_⟩
  · rw [List.nodup_append]
    refine ⟨h.2.2.1, by simp, fun a ha b hb e => ?_⟩
    rw [List.mem_singleton] at hb
    exact ll (hb ▸ e ▸ ha)
  · exact paired_app ⟨hl0, hne, hl.alien hne (alien_dk h.1) k⟩ (Paired.mapP h.2.2.2 fun _ _ ⟨a, b, c⟩ => ⟨a, b, c.alien b (alien_dk h.1) k⟩)
end SG
namespace SG
open PySem PySem.Spec PyProof.Rows L2 LamX
def ButX (s : Addr) (H H' : Hp) : Prop := ∀ a o, a ≠ s → H a = some o → (∀ ps, o ≠ .tbl ps) → H' a = some o
theorem ButX.trans {s : Addr} {H H1 H2 : Hp} (a : ButX s H H1) (b : ButX s H1 H2) : ButX s H H2 := fun x o n h t => b x o n (a x o n h t) t
theorem butX_but {s : Addr} {H H' : Hp} (b : But s H H') : ButX s H H' := fun x o n h _ => b x o n h
theorem butX_ext {s : Addr} {H H' : Hp} (b : ExtN H H') : ButX s H H' := fun x o _ h t => b x o h t
theorem butX_same {s : Addr} {H H' : Hp} (b : Same H H') : ButX s H H' := fun x o _ h _ => b x o h
theorem ButX.lst {s a : Addr} {H H' : Hp} (b : ButX s H H') (n : a ≠ s) {xs : List V} (h : H a = some (.lst xs)) : H' a = some (.lst xs) := b _ _ n h fun ps z => by cases z
theorem ButX.gram {s : Addr} {k : Nat} {C : Addr} {H H' : Hp} {g : Addr} {names : List Str} {rs : List Rule} (h : GramAt C H g names rs) (w : WellAt H s k) (b : ButX s H H') : GramAt C H' g names rs := by
  obtain ⟨a1, a2, a3, hs, _⟩ := w
  obtain ⟨dx, kn, st, od, ls, h1, h2, h3, h4⟩ := h.ex
  have n : ∀ {y : Addr} {o : HO}, H y = some o → o ≠ .lst [.int a1, .int a2, .int a3] → y ≠ s := fun h n z => by rw [z, hs] at h; exact n (Option.some.inj h).symm
  have k1 : ∀ {y : Addr} {l : List Str}, H y = some (.lst (l.map V.str)) → H' y = some (.lst (l.map V.str)) := fun {y l} h => b.lst (n h fun z => by
    have z := HO.lst.inj z
    cases l with
    | nil => cases z
    | cons x l => cases z) h
  have k2 : ∀ {y : Addr} {l : List Addr}, H y = some (.lst (l.map V.ref)) → H' y = some (.lst (l.map V.ref)) := fun {y l} h => b.lst (n h fun z => by
    have z := HO.lst.inj z
    cases l with
    | nil => cases z
    | cons x l => cases z) h
  exact ⟨dx, kn, st, od, ls, b _ _ (n h1 fun z => by cases z) h1 fun ps z => (by cases z), k1 h2, ⟨b _ _ (n h3.1 fun z => by cases z) h3.1 fun ps z => (by cases z), Paired.mapP h3.2.1 fun _ _ ⟨ts, h5, h6⟩ => ⟨ts, k2 h5, Paired.mapP h6 fun _ _ ⟨x, h7, h8⟩ => ⟨x, b _ _ (n h7 fun z => by cases z) h7 fun ps z => (by cases z), k1 h8⟩⟩, h3.2.2⟩, k1 h4⟩
theorem ButX.trios {s l : Addr} {k : Nat} {H H' : Hp} {rs : List Rule} (h : TriosAt H l rs) (w : WellAt H s k) (b : ButX s H H') : TriosAt H' l rs := by
  obtain ⟨ts, h1, h2⟩ := h
  exact ⟨ts, b.lst (w.ne_refs h1) h1, Paired.mapP h2 fun _ _ ⟨x, h3, h4⟩ => ⟨x, b _ _ (w.ne_tup h3) h3 fun ps z => (by cases z), b.lst (w.ne_strs h4) h4⟩⟩
theorem ButX.free {s : Addr} {k : Nat} {H H' : Hp} (b : ButX s H H') (w : WellAt H' s k) {p : Addr} (hp : H' p = none) : FreeN H p := fun o ho => by
  by_cases n : p = s
  · obtain ⟨o2, h2⟩ := w.some
    rw [n, h2] at hp
    cases hp
  · cases o with
    | tbl ps => exact ⟨ps, rfl⟩
    | _ => rw [b _ _ n ho fun ps z => by cases z] at hp; cases hp
theorem wellX {s : Addr} {k : Nat} {H H' : Hp} (w : WellAt H s k) (e : ExtN H H') : WellAt H' s k := by
  obtain ⟨a, b, c, h1, h2⟩ := w
  exact ⟨a, b, c, e.lst h1, h2⟩
theorem tabs_well {T : List (Addr × Str)} {s : Addr} {k : Nat} {H H' : Hp} (t : Tabs T H) (w : WellAt H s k) (b : But s H H') : Tabs T H' := fun p hp => by
  obtain ⟨a1, a2, a3, hs, _⟩ := w
  obtain ⟨ps, h1, h2, h3⟩ := t p hp
  refine ⟨ps, b _ _ (fun z => by rw [z, hs] at h1; cases h1) h1, h2, fun pos cv hc => ?_⟩
  obtain ⟨c, e1, e2⟩ := h3 pos cv hc
  refine ⟨c, e1, b _ _ (fun z => ?_) e2⟩
  rw [z, hs] at e2
  have e2 := Option.some.inj e2
  unfold CodeO at e2
  cases e2
theorem letter_ok : ∀ u, u < 26 → isLetter ⟨#[97 + u]⟩ = true := by decide +kernel
theorem extN_butX {s : Addr} {H0 H H' : Hp} (sm : Same H0 H) (b : ButX s H H') (h : H0 s = none) : ExtN H0 H' := fun a o ha t => b a o (fun z => by rw [z, h] at ha; cases ha) (sm a o ha) t
end SG
namespace SG
open PySem PySem.Spec PyProof.Rows L2 LamX
theorem paired_of_ix {α β : Type} {F : α → β → Prop} : ∀ {xs : List α} {ys : List β}, xs.length = ys.length → (∀ (i : Nat) x y, xs[i]? = some x → ys[i]? = some y → F x y) → Paired F xs ys
  | [], [], _, _ => .nil
  | [], _ :: _, h, _ => by cases h
  | _ :: _, [], h, _ => by cases h
  | x :: xs, y :: ys, h, k => .cons (k 0 x y rfl rfl) (paired_of_ix (Nat.succ.inj h) fun i a b h1 h2 => k (i + 1) a b h1 h2)
variable {H0 H H' : Hp} {rd : Addr} {ns : List Str} {ls : List Addr} {gs : List (List Step)}
theorem RuleAt.refs {t z : Addr} {p : Step} {ts : List Addr} (h : RuleAt H t p) (hz : H z = some (.lst (ts.map V.ref))) (hne : ts ≠ []) (k : But z H H') : RuleAt H' t p := by
  obtain ⟨a1, a2⟩ := alien_refs hz hne
  obtain ⟨w, h3, h4⟩ := h
  exact ⟨w, k _ _ (fun e => a1 _ (e ▸ h3)) h3, k _ _ (fun e => a2 _ (e ▸ h4)) h4⟩
/-- a step more at the i-th name -/
theorem RulesT.app {i : Nat} {l t : Addr} {ps : List Step} {p : Step} {ts : List Addr} (h : RulesT H0 H rd ns ls gs) (hl : ls[i]? = some l) (hg : gs[i]? = some ps) (hts : H l = some (.lst (ts.map V.ref))) (hp : Paired (RuleAt H) ts ps) (ht : RuleAt H t p) :
    RulesT H0 (upd H l (.lst (ts.map V.ref ++ [V.ref t]))) rd ns ls (gs.set i (ps ++ [p])) := by
  have k : But l H (upd H l (.lst (ts.map V.ref ++ [V.ref t]))) := (But.refl l H).own _
  have hlen := paired_len h.2.2.2
  have hne : ps ≠ [] := (paired_ix h.2.2.2 hl hg).2.1
  have htne : ts ≠ [] := fun e => by
    subst e
    cases hp
    exact hne rfl
  refine ⟨k _ _ (fun e => ?_) h.1, h.2.1, h.2.2.1, paired_of_ix (by rw [List.length_set]; exact hlen) fun j l' ps' h1 h2 => ?_⟩
  · rw [← e, h.1] at hts
    cases hts
  · rw [List.getElem?_set] at h2
    by_cases c : i = j
    · subst c
      rw [if_pos rfl] at h2
      have hi := (List.getElem?_eq_some_iff.mp hg).1
      rw [if_pos hi] at h2
      obtain rfl := Option.some.inj h2
      rw [hl] at h1
      obtain rfl := Option.some.inj h1
      refine ⟨(paired_ix h.2.2.2 hl hg).1, by simp, ts ++ [t], by rw [upd_same, List.map_append]; rfl, paired_app (ht.refs hts htne k) (Paired.mapP hp fun _ _ h => h.refs hts htne k)⟩
    · rw [if_neg c] at h2
      obtain ⟨a, b, d⟩ := paired_ix h.2.2.2 h1 h2
      refine ⟨a, b, d.refs hts htne (fun e => c ?_) k⟩
      subst e
      obtain ⟨g1, e1⟩ := List.getElem?_eq_some_iff.mp hl
      obtain ⟨g2, e2⟩ := List.getElem?_eq_some_iff.mp h1
      exact (List.getElem_inj h.2.2.1).mp (e1.trans e2.symm)
/-- another list at the i-th name -/
theorem RulesT.set {i : Nat} {k0 : Str} {l : Addr} {ps : List Step} (h : RulesT H0 H rd ns ls gs) (nd : ns.Nodup) (hk : ns[i]? = some k0) (hl : ListAt H l ps) (hne : ps ≠ []) (hl0 : H0 l = none) (ll : l ∉ ls) :
    RulesT H0 (upd H rd (.dK (putK (zipK ns ls) (Sum.inr k0 : Key) (.ref l)))) rd ns (ls.set i l) (gs.set i ps) := by
  have k : But rd H (upd H rd (.dK (putK (zipK ns ls) (Sum.inr k0 : Key) (.ref l)))) := (But.refl rd H).own _
  have hlen := paired_len h.2.2.2
  refine ⟨by rw [upd_same, zipK_set h.2.1 nd hk], by rw [List.length_set]; exact h.2.1, ?_, paired_of_ix (by rw [List.length_set, List.length_set]; exact hlen) fun j l' ps' h1 h2 => ?_⟩
  · refine List.pairwise_iff_getElem.mpr fun a b ha hb hab e => ?_
    rw [List.getElem_set, List.getElem_set] at e
    have ha' : a < ls.length := by simpa using ha
    have hb' : b < ls.length := by simpa using hb
    by_cases c1 : i = a
    · by_cases c2 : i = b
      · omega
      · rw [if_pos c1, if_neg c2] at e
        exact ll (e ▸ List.getElem_mem hb')
    · by_cases c2 : i = b
      · rw [if_neg c1, if_pos c2] at e
        exact ll (e ▸ List.getElem_mem ha')
      · rw [if_neg c1, if_neg c2] at e
        have := (List.getElem_inj h.2.2.1).mp e
        omega
  · rw [List.getElem?_set] at h1 h2
    by_cases c : i = j
    · rw [if_pos c] at h1 h2
      split at h1
      · obtain rfl := Option.some.inj h1
        split at h2
        · obtain rfl := Option.some.inj h2
          exact ⟨hl0, hne, hl.alien hne (alien_dk h.1) k⟩
        · cases h2
      · cases h1
    · rw [if_neg c] at h1 h2
      obtain ⟨a, b, d⟩ := paired_ix h.2.2.2 h1 h2
      exact ⟨a, b, d.alien b (alien_dk h.1) k⟩
theorem RulesT.look {i : Nat} {k0 : Str} (h : RulesT H0 H rd ns ls gs) (nd : ns.Nodup) (hk : ns[i]? = some k0) : ∃ l ps ts, ls[i]? = some l ∧ gs[i]? = some ps ∧ valV (zipK ns ls) (Sum.inr k0 : Key) = some (.ref l) ∧ H l = some (.lst (ts.map V.ref)) ∧ Paired (RuleAt H) ts ps ∧ ps ≠ [] := by
  have hlen := paired_len h.2.2.2
  rcases zipK_val h.2.1.symm k0 with ⟨_, e⟩ | ⟨j, l, h1, h2, h3, _⟩
  · exact absurd (List.mem_of_getElem? hk) e
  · have ej : j = i := nd_ix nd h1 hk
    subst ej
    have hj := (List.getElem?_eq_some_iff.mp h2).1
    obtain ⟨ps, hps⟩ : ∃ ps, gs[j]? = some ps := ⟨_, List.getElem?_eq_getElem (by omega)⟩
    obtain ⟨_, b, ts, h4, h5⟩ := paired_ix h.2.2.2 h2 hps
    exact ⟨l, ps, ts, h2, hps, h3, h4, h5, b⟩
theorem tabs_dk {T : List (Addr × Str)} {H : Hp} {a : Addr} {kvs : List (Key × V)} (t : Tabs T H) (h : H a = some (.dK kvs)) (o : HO) : Tabs T (upd H a o) := fun p hp => by
  obtain ⟨ps, h1, h2, h3⟩ := t p hp
  refine ⟨ps, by rw [upd_ne (fun z => by rw [z, h] at h1; cases h1)]; exact h1, h2, fun pos cv hc => ?_⟩
  obtain ⟨c, e1, e2⟩ := h3 pos cv hc
  refine ⟨c, e1, ?_⟩
  rw [upd_ne (fun z => by
    rw [z, h] at e2
    have e2 := Option.some.inj e2
    unfold CodeO at e2
    cases e2)]
  exact e2
/-- a world that is drawn: names in their order, a chain of the same names, each with its steps -/
structure WorldAt (H : Hp) (wd : Addr) (names chain : List Str) (gs : List (List Step)) : Prop where
  ex : ∃ nl rd ls, H wd = some (.dK [((Sum.inr "names" : Key), V.ref nl), ((Sum.inr "rules" : Key), V.ref rd)]) ∧ H nl = some (.lst (names.map V.str)) ∧ H rd = some (.dK (zipK chain ls)) ∧ ls.length = chain.length ∧ Paired (ListAt H) ls gs
def StepsW (chain : List Str) (i : Nat) (b : Nat) (c : Nat) (ps : List Step) : Prop := ps.Nodup ∧ ps.length ≤ b ∧ (∀ p ∈ ps, isLetter p.1 = true ∧ p.2.length ≤ c ∧ ∀ x ∈ p.2, x ∈ chain) ∧ ∃ p ∈ ps, ∀ x ∈ p.2, x ∈ chain.take i
def WorldR (chain : List Str) (b c : Nat) (gs : List (List Step)) : Prop := gs.length = chain.length ∧ ∀ i ps, gs[i]? = some ps → StepsW chain i b c ps
/-! the rules of a world -/
/-- the steps of a name -/
def stepsW (chain : List Str) (gs : List (List Step)) (n : Str) : List Step := ((chain.zip gs).filter fun p => decide (p.1 = n)).flatMap (·.2)
theorem stepsW_at : ∀ {chain : List Str} {gs : List (List Step)}, chain.Nodup → ∀ {i : Nat} {n : Str} {ps : List Step}, chain[i]? = some n → gs[i]? = some ps → stepsW chain gs n = ps
  | [], gs, _, i, n, ps, h, _ => by simp at h
  | a :: chain, [], _, i, n, ps, _, h => by simp at h
  | a :: chain, g :: gs, nd, 0, n, ps, h1, h2 => by
    have e1 := Option.some.inj h1
    have e2 := Option.some.inj h2
    subst e1
    subst e2
    unfold stepsW
    rw [List.zip_cons_cons, List.filter_cons, if_pos (by simp), List.flatMap_cons]
    have e : ((chain.zip gs).filter fun p => decide (p.1 = a)) = [] := List.filter_eq_nil_iff.mpr fun p hp h => by
      have := of_decide_eq_true h
      obtain ⟨x, y⟩ := p
      have hm := (List.of_mem_zip hp).1
      exact (List.nodup_cons.mp nd).1 (this ▸ hm)
    rw [e]
    exact List.append_nil _
  | a :: chain, g :: gs, nd, i + 1, n, ps, h1, h2 => by
    have h1 : chain[i]? = some n := h1
    have h2 : gs[i]? = some ps := h2
    unfold stepsW
    rw [List.zip_cons_cons, List.filter_cons, if_neg (by
      rw [decide_eq_true_eq]
      intro e
      have e : a = n := e
      exact (List.nodup_cons.mp nd).1 (e ▸ List.mem_of_getElem? h1))]
    exact stepsW_at (List.nodup_cons.mp nd).2 h1 h2
def rulesW (names : List Str) (f : Str → List Step) : List Rule := names.flatMap fun n => (f n).map fun p => (n, p.1, p.2)
theorem rulesOf_self (f : Str → List Step) (n m : Str) : rulesOf ((f n).map fun p : Step => ((n, p.1, p.2) : Rule)) m = if n = m then f n else [] := by
  unfold rulesOf
  by_cases c : n = m
  · rw [if_pos c, List.filter_eq_self.mpr, List.map_map]
    · exact List.map_id _
    · intro r hr
      obtain ⟨p, _, rfl⟩ := List.mem_map.mp hr
      exact decide_eq_true c
  · rw [if_neg c, List.filter_eq_nil_iff.mpr]
    · rfl
    · intro r hr h
      obtain ⟨p, _, rfl⟩ := List.mem_map.mp hr
      exact c (of_decide_eq_true h)
theorem rulesOf_W (f : Str → List Step) (m : Str) : ∀ {names : List Str}, names.Nodup → rulesOf (rulesW names f) m = if m ∈ names then f m else []
  | [], _ => rfl
  | n :: names, nd => by
    have e : rulesOf (rulesW (n :: names) f) m = rulesOf ((f n).map fun p : Step => ((n, p.1, p.2) : Rule)) m ++ rulesOf (rulesW names f) m := by
      unfold rulesW rulesOf
      rw [List.flatMap_cons, List.filter_append, List.map_append]
    rw [e, rulesOf_self, rulesOf_W f m (List.nodup_cons.mp nd).2]
    by_cases c : n = m
    · subst c
      rw [if_pos rfl, if_neg (List.nodup_cons.mp nd).1, if_pos (List.mem_cons_self ..), List.append_nil]
    · rw [if_neg c, List.nil_append]
      by_cases c2 : m ∈ names
      · rw [if_pos c2, if_pos (List.mem_cons_of_mem _ c2)]
      · rw [if_neg c2, if_neg (fun h => (List.mem_cons.mp h).elim (fun e => c e.symm) c2)]
theorem nodup_flatW {α β : Type} {g : α → List β} : ∀ {l : List α}, l.Nodup → (∀ a ∈ l, (g a).Nodup) → (∀ a ∈ l, ∀ b ∈ l, a ≠ b → ∀ x ∈ g a, x ∉ g b) → (l.flatMap g).Nodup
  | [], _, _, _ => List.nodup_nil
  | a :: l, n, h, d => by
    have n1 := List.nodup_cons.mp n
    rw [List.flatMap_cons, List.nodup_append]
    refine ⟨h a (List.mem_cons_self ..), nodup_flatW n1.2 (fun b hb => h b (List.mem_cons_of_mem _ hb)) fun b hb c hc => d b (List.mem_cons_of_mem _ hb) c (List.mem_cons_of_mem _ hc), ?_⟩
    intro x hx y hy e
    subst e
    obtain ⟨b, hb, h2⟩ := List.mem_flatMap.mp hy
    exact d a (List.mem_cons_self ..) b (List.mem_cons_of_mem _ hb) (fun e => n1.1 (e ▸ hb)) x hx h2
section
variable {chain names : List Str} {b : Nat} {gs : List (List Step)}
theorem WorldR.at_ (h : WorldR chain b 3 gs) (nd : chain.Nodup) {n : Str} (hn : n ∈ chain) : ∃ i, chain[i]? = some n ∧ StepsW chain i b 3 (stepsW chain gs n) := by
  obtain ⟨i, hi⟩ := List.mem_iff_getElem?.mp hn
  have hil := (List.getElem?_eq_some_iff.mp hi).1
  obtain ⟨ps, hps⟩ : ∃ ps, gs[i]? = some ps := ⟨_, List.getElem?_eq_getElem (by rw [h.1]; exact hil)⟩
  exact ⟨i, hi, by rw [stepsW_at nd hi hps]; exact h.2 i ps hps⟩
theorem world_good (h : WorldR chain b 3 gs) (hb : b ≤ 4) (nd : chain.Nodup) (hp : names.Perm chain) : GoodR names (rulesW names (stepsW chain gs)) where
  nd := by
    refine nodup_flatW (hp.nodup_iff.mpr nd) (fun n hn => ?_) fun a _ c _ hac x hx hy => ?_
    · obtain ⟨i, _, h1, _⟩ := h.at_ nd (hp.mem_iff.mp hn)
      exact List.Pairwise.map _ (fun p q (hpq : p ≠ q) e => hpq (by
        have e := (Prod.mk.inj e).2
        exact e)) h1
    · obtain ⟨p, _, rfl⟩ := List.mem_map.mp hx
      obtain ⟨q, _, e⟩ := List.mem_map.mp hy
      exact hac (Prod.mk.inj e).1.symm
  ok := fun r hr => by
    obtain ⟨n, hn, h2⟩ := List.mem_flatMap.mp hr
    obtain ⟨p, hpm, rfl⟩ := List.mem_map.mp h2
    obtain ⟨i, _, _, _, h3, _⟩ := h.at_ nd (hp.mem_iff.mp hn)
    obtain ⟨a1, a2, a3⟩ := h3 p hpm
    exact ⟨hn, a1, a2, fun x hx => hp.mem_iff.mpr (a3 x hx)⟩
  few := fun n => by
    rw [rulesOf_W _ _ (hp.nodup_iff.mpr nd)]
    split
    · rename_i hn
      obtain ⟨i, _, _, h2, _⟩ := h.at_ nd (hp.mem_iff.mp hn)
      omega
    · exact Nat.zero_le _
theorem world_few (h : WorldR chain b 3 gs) (nd : chain.Nodup) (hp : names.Perm chain) (n : Str) : (rulesOf (rulesW names (stepsW chain gs)) n).length ≤ b := by
  rw [rulesOf_W _ _ (hp.nodup_iff.mpr nd)]
  split
  · rename_i hn
    obtain ⟨i, _, _, h2, _⟩ := h.at_ nd (hp.mem_iff.mp hn)
    exact h2
  · exact Nat.zero_le _
theorem world_ends (h : WorldR chain b 3 gs) (nd : chain.Nodup) (hp : names.Perm chain) : EndsR names (rulesW names (stepsW chain gs)) := by
  have key : ∀ k, EndsR (chain.take k) (rulesW names (stepsW chain gs)) := fun k => by
    induction k with
    | zero => intro x hx; simp at hx
    | succ k ih =>
      intro x hx
      cases hk : chain[k]? with
      | none =>
        have : chain.length ≤ k := List.getElem?_eq_none_iff.mp hk
        rw [List.take_of_length_le (by omega)] at hx
        refine ih x ?_
        rw [List.take_of_length_le this]
        exact hx
      | some n =>
        rw [take_snoc hk] at hx
        rcases List.mem_append.mp hx with hx | hx
        · exact ih x hx
        · rw [List.mem_singleton.mp hx]
          have hil := (List.getElem?_eq_some_iff.mp hk).1
          obtain ⟨ps, hps⟩ : ∃ ps, gs[k]? = some ps := ⟨_, List.getElem?_eq_getElem (by rw [h.1]; exact hil)⟩
          obtain ⟨_, _, _, p, hpm, hpe⟩ := h.2 k ps hps
          obtain ⟨d, vs, hl, hd⟩ := ih.row hpe
          refine ⟨_, d + 1, p.2, ?_, vs, hl, hd, rfl⟩
          unfold edR
          refine List.mem_map.mpr ⟨(n, p.1, p.2), ?_, rfl⟩
          refine List.mem_flatMap.mpr ⟨n, hp.mem_iff.mpr (List.mem_of_getElem? hk), List.mem_map.mpr ⟨p, ?_, rfl⟩⟩
          rw [stepsW_at nd hk hps]
          exact hpm
  intro x hx
  have := key chain.length x
  rw [List.take_length] at this
  exact this (hp.mem_iff.mp hx)
theorem rulesW_len (h : WorldR chain b 3 gs) (nd : chain.Nodup) : ∀ ns : List Str, (∀ n ∈ ns, n ∈ chain) → (rulesW ns (stepsW chain gs)).length ≤ ns.length * b
  | [], _ => Nat.le_of_eq (by simp [rulesW])
  | n :: ns, hs => by
    have ih := rulesW_len h nd ns fun x hx => hs x (List.mem_cons_of_mem _ hx)
    obtain ⟨i, _, _, h2, _⟩ := h.at_ nd (hs n (List.mem_cons_self ..))
    unfold rulesW at ih ⊢
    rw [List.flatMap_cons, List.length_append, List.length_map, List.length_cons, Nat.succ_mul]
    omega
end
end SG
/-! drawn grammars of kin: what is known of the norms of their names -/
namespace SG
open PySem PySem.Spec PyProof.Rows L2 LamX
/-- a name comes to nothing within as many steps as the dict tells, at most B -/
def KwOk (kvs : List (Key × V)) (rs : List Rule) (B : Nat) (x : Str) : Prop := ∃ z v : Nat, valV kvs (Sum.inr x : Key) = some (.int z) ∧ 1 ≤ z ∧ z ≤ B ∧ v ≤ z ∧ Der (edR rs) x v
theorem KwOk.val {kvs : List (Key × V)} {rs : List Rule} {B : Nat} {x : Str} (h : KwOk kvs rs B x) : ∃ z : Int, valV kvs (Sum.inr x : Key) = some (.int z) := by
  obtain ⟨z, _, h1, _⟩ := h
  exact ⟨z, h1⟩
theorem KwOk.int {kvs : List (Key × V)} {rs : List Rule} {B : Nat} {x : Str} (h : KwOk kvs rs B x) : ∃ z v : Nat, intOf kvs x = (z : Int) ∧ 1 ≤ z ∧ z ≤ B ∧ v ≤ z ∧ Der (edR rs) x v := by
  obtain ⟨z, v, h1, h2⟩ := h
  have h3 := intOf_eq ⟨(z : Int), h1⟩
  rw [h1] at h3
  exact ⟨z, v, (V.int.inj (Option.some.inj h3)).symm, h2⟩
theorem KwOk.more {kvs : List (Key × V)} {rs : List Rule} {B : Nat} {x : Str} (h : KwOk kvs rs B x) {rs2 : List Rule} (hr : ∀ r ∈ rs, r ∈ rs2) : KwOk kvs rs2 B x := by
  obtain ⟨z, v, h1, h2, h3, h4, h5⟩ := h
  exact ⟨z, v, h1, h2, h3, h4, h5.more fun e he => by
    obtain ⟨r, hr1, rfl⟩ := List.mem_map.mp he
    exact List.mem_map_of_mem (hr r hr1)⟩
theorem KwOk.up {kvs : List (Key × V)} {rs : List Rule} {B B2 : Nat} {x : Str} (h : KwOk kvs rs B x) (hb : B ≤ B2) : KwOk kvs rs B2 x := by
  obtain ⟨z, v, h1, h2, h3, h4⟩ := h
  exact ⟨z, v, h1, h2, by omega, h4⟩
theorem KwOk.put {kvs : List (Key × V)} {rs : List Rule} {B : Nat} {x n : Str} (h : KwOk kvs rs B x) (hn : x ≠ n) (u : V) : KwOk (putK kvs (Sum.inr n : Key) u) rs B x := by
  obtain ⟨z, v, h1, h2⟩ := h
  exact ⟨z, v, by rw [valV_put, if_neg (fun q => hn (Sum.inr.inj q))]; exact h1, h2⟩
theorem kw_row {kvs : List (Key × V)} {rs : List Rule} {B : Nat} : ∀ {row : List Str}, (∀ x ∈ row, KwOk kvs rs B x) → ∃ (s h : Nat) (vs : List Nat), (row.map (intOf kvs)).sum = (s : Int) ∧ vs.length = row.length ∧ (∀ p ∈ row.zip vs, Dv (edR rs) h p.1 p.2) ∧ vs.sum ≤ s
  | [], _ => ⟨0, 0, [], rfl, rfl, fun p hp => (nomatch hp), Nat.le_refl _⟩
  | x :: t, k => by
    obtain ⟨s, h, vs, e, hl, hd, hs⟩ := kw_row (row := t) fun y hy => k y (List.mem_cons_of_mem _ hy)
    obtain ⟨z, v, e1, _, _, hv, ⟨h2, d⟩⟩ := (k x List.mem_cons_self).int
    refine ⟨z + s, max h h2, v :: vs, ?_, by rw [List.length_cons, List.length_cons, hl], fun p hp => ?_, by rw [List.sum_cons]; omega⟩
    · rw [List.map_cons, List.sum_cons, e, e1]
      exact (Int.natCast_add _ _).symm
    · rw [List.zip_cons_cons] at hp
      rcases List.mem_cons.mp hp with rfl | hp
      · exact d.mono (Nat.le_max_right _ _)
      · exact (hd p hp).mono (Nat.le_max_left _ _)
/-- a new name with a rule to what is known -/
theorem KwOk.new {kvs : List (Key × V)} {rs : List Rule} {B : Nat} {row : List Str} (k : ∀ x ∈ row, KwOk kvs rs B x) {n l : Str} (hb : 1 + (row.map (intOf kvs)).sum ≤ (B : Int)) : KwOk (putK kvs (Sum.inr n : Key) (.int (1 + (row.map (intOf kvs)).sum))) (rs ++ [(n, l, row)]) B n := by
  obtain ⟨s, h, vs, e, hl, hd, hs⟩ := kw_row k
  rw [e] at hb ⊢
  refine ⟨1 + s, 1 + vs.sum, by rw [valV_put, if_pos rfl]; rfl, by omega, by omega, by omega, h + 1, row, ?_, vs, hl, fun p hp => (hd p hp).sub fun x hx => ?_, rfl⟩
  · exact List.mem_map.mpr ⟨(n, l, row), List.mem_append_right _ List.mem_cons_self, rfl⟩
  · obtain ⟨r, hr1, rfl⟩ := List.mem_map.mp hx
    exact List.mem_map_of_mem (List.mem_append_left _ hr1)
def sp_rulesK : Sp := fun vs H Q _ => ∃ (s nl sg : Addr) (plain : Bool) (B : Nat) (names signs : List Str) (n : Nat), vs = [.ref s, .ref nl, .ref sg, .bl plain, .int B] ∧ 1 ≤ B ∧ WellAt H s n ∧ n ≤ 10000000 ∧ H nl = some (.lst (names.map V.str)) ∧ H sg = some (.lst (signs.map V.str)) ∧ names.Nodup ∧ 1 ≤ names.length ∧ names.length ≤ 6 ∧ signs ≠ [] ∧ signs.length ≤ 100 ∧ (∀ x ∈ signs, isLetter x = true) ∧
  ∀ p ru kn H' (rs : List Rule) kvs, But s H H' → WellAt H' s (n + 1000) → H p = none → H ru = none → H kn = none → H' p = some (.tup [.ref ru, .ref kn]) → (∃ ts : List Addr, H' ru = some (.lst (ts.map V.ref)) ∧ Paired (TrioF H H') ts rs) → H' kn = some (.dK kvs) → kvs.length ≤ 6 → (∀ x ∈ names, KwOk kvs rs B x) → GoodR names rs → rs.length ≤ 24 → Q (.ref p) H'
/-- the rules of a name of kin: the rules of one, with behind put behind -/
def kinR (rs : List Rule) (one : Str) (behind : List Str) (n : Str) : List Rule := (rulesOf rs one).map fun q => (n, q.1, q.2 ++ behind)
def sp_kin : Sp := fun vs H Q _ => ∃ (s ru kn nl : Addr) (nk : Str) (names : List Str) (rs : List Rule) (kvs : List (Key × V)) (B n : Nat), vs = [.ref s, .ref ru, .ref kn, .ref nl, .str nk] ∧ WellAt H s n ∧ n ≤ 10000000 ∧ TriosAt H ru rs ∧ rs.length ≤ 100 ∧ H nl = some (.lst (names.map V.str)) ∧ names ≠ [] ∧ names.length ≤ 6 ∧ H kn = some (.dK kvs) ∧ kvs.length ≤ 100 ∧ (∀ x ∈ names, KwOk kvs rs B x) ∧ GoodR names rs ∧
  ∀ p H' (one : Str) (behind : List Str), H p = none → (∀ b o, H b = some o → b ≠ s → b ≠ kn → H' b = some o) → WellAt H' s (n + 10) → H' kn = some (.dK (putK kvs (Sum.inr nk : Key) (.int (intOf kvs one + (behind.map (intOf kvs)).sum)))) → one ∈ names → (∀ x ∈ behind, x ∈ names) → behind.length ≤ 1 → (∀ q ∈ rulesOf rs one, q.2.length + behind.length ≤ 3) → TriosAt H' p (kinR rs one behind nk) → Q (.ref p) H'
theorem cut_one {x : Str} {j : Int} (h0 : 0 ≤ j) (h1 : j < 2) : ∃ ys : List Str, cutV [V.str x] none (some j) = ys.map V.str ∧ ys.length ≤ 1 ∧ ∀ y ∈ ys, y = x := by
  rcases (show j = 0 ∨ j = 1 by omega) with rfl | rfl
  · exact ⟨[], rfl, by decide, fun y hy => (nomatch hy)⟩
  · exact ⟨[x], rfl, Nat.le_refl _, fun y hy => List.mem_singleton.mp hy⟩
theorem KwOk.rule {kvs : List (Key × V)} {rs : List Rule} {B : Nat} {x : Str} (h : KwOk kvs rs B x) : rulesOf rs x ≠ [] := by
  obtain ⟨_, _, _, _, _, _, ⟨k, d⟩⟩ := h
  cases k with
  | zero => exact d.elim
  | succ k =>
    obtain ⟨row, hr, _⟩ := d
    obtain ⟨r, hr1, e⟩ := List.mem_map.mp hr
    intro z
    have e1 : r.1 = x := congrArg Prod.fst e
    have h2 : r.2 ∈ rulesOf rs x := mem_rulesOf.mpr (by rw [← e1]; exact hr1)
    rw [z] at h2
    cases h2
theorem intOf_put {kvs : List (Key × V)} {n x : Str} (hn : x ≠ n) (u : V) : intOf (putK kvs (Sum.inr n : Key) u) x = intOf kvs x := by
  unfold intOf
  rw [valV_put, if_neg (fun q => hn (Sum.inr.inj q))]
theorem KwOk.kin {kvs : List (Key × V)} {rs : List Rule} {B : Nat} {one nk : Str} {behind : List Str} (ho : KwOk kvs rs B one) (hb : ∀ x ∈ behind, KwOk kvs rs B x) (hl : behind.length ≤ 1) : KwOk (putK kvs (Sum.inr nk : Key) (.int (intOf kvs one + (behind.map (intOf kvs)).sum))) (rs ++ kinR rs one behind nk) (B + B) nk := by
  obtain ⟨s, h, vs, e, hvl, hd, hs⟩ := kw_row hb
  have hsB : s ≤ B := by
    cases behind with
    | nil =>
      have e : (0 : Int) = (s : Int) := e
      omega
    | cons x t =>
      cases t with
      | cons _ _ => simp at hl
      | nil =>
        obtain ⟨z, v, e1, _, hz, _⟩ := (hb x List.mem_cons_self).int
        rw [List.map_cons, List.sum_cons, e1] at e
        have e : (z : Int) + 0 = (s : Int) := e
        omega
  obtain ⟨z, v, e1, hz1, hzB, hv, ⟨k, d⟩⟩ := ho.int
  cases k with
  | zero => exact d.elim
  | succ k =>
    obtain ⟨row, hr, ws, hwl, hwd, hwv⟩ := d
    obtain ⟨r, hr1, er⟩ := List.mem_map.mp hr
    have er1 : r.1 = one := congrArg Prod.fst er
    have er2 : r.2.2 = row := congrArg Prod.snd er
    have sub : ∀ y, y ∈ edR rs → y ∈ edR (rs ++ kinR rs one behind nk) := fun y hy => by
      obtain ⟨r, hr1, rfl⟩ := List.mem_map.mp hy
      exact List.mem_map_of_mem (List.mem_append_left _ hr1)
    refine ⟨z + s, v + vs.sum, by rw [valV_put, if_pos rfl, e, e1, Int.natCast_add], by omega, by omega, by omega, max k h + 1, row ++ behind, ?_, ws ++ vs, by rw [List.length_append, List.length_append, hwl, hvl], fun p hp => ?_, by rw [List.sum_append, hwv]; omega⟩
    · refine List.mem_map.mpr ⟨(nk, r.2.1, row ++ behind), List.mem_append_right _ ?_, rfl⟩
      refine List.mem_map.mpr ⟨r.2, mem_rulesOf.mpr (by rw [← er1]; exact hr1), by rw [er2]⟩
    · rw [List.zip_append hwl.symm] at hp
      rcases List.mem_append.mp hp with hp | hp
      · exact ((hwd p hp).sub sub).mono (Nat.le_max_left _ _)
      · exact ((hd p hp).sub sub).mono (Nat.le_max_right _ _)
theorem mem_kinR {rs : List Rule} {one nk : Str} {behind : List Str} {r : Rule} : r ∈ kinR rs one behind nk ↔ ∃ row, (one, r.2.1, row) ∈ rs ∧ r = (nk, r.2.1, row ++ behind) := by
  unfold kinR
  rw [List.mem_map]
  constructor
  · rintro ⟨q, hq, rfl⟩
    exact ⟨q.2, mem_rulesOf.mp hq, rfl⟩
  · rintro ⟨row, h, e⟩
    exact ⟨(r.2.1, row), mem_rulesOf.mpr h, e.symm⟩
theorem GoodR.kin {names : List Str} {rs : List Rule} {one nk : Str} {behind : List Str} (g : GoodR names rs) (hn : nk ∉ names) (ho : one ∈ names) (hb : ∀ x ∈ behind, x ∈ names) (h3 : ∀ q ∈ rulesOf rs one, q.2.length + behind.length ≤ 3) : GoodR (names ++ [nk]) (rs ++ kinR rs one behind nk) where
  nd := by
    rw [List.nodup_append]
    refine ⟨g.nd, ?_, fun a ha b hb e => ?_⟩
    · unfold kinR rulesOf
      rw [List.map_map]
      refine List.pairwise_map.mpr (((List.filter_sublist).nodup g.nd).imp_of_mem fun {a b} ha hb hab e => hab ?_)
      have ha := of_decide_eq_true (List.mem_filter.mp ha).2
      have hb := of_decide_eq_true (List.mem_filter.mp hb).2
      have e2 : (a.2.1, a.2.2 ++ behind) = (b.2.1, b.2.2 ++ behind) := congrArg Prod.snd e
      have e3 : a.2.1 = b.2.1 := (Prod.mk.inj e2).1
      have e4 : a.2.2 ++ behind = b.2.2 ++ behind := (Prod.mk.inj e2).2
      have e5 := List.append_cancel_right e4
      exact Prod.ext (ha.trans hb.symm) (Prod.ext e3 e5)
    · obtain ⟨row, _, e2⟩ := mem_kinR.mp hb
      have h1 := (g.ok a ha).1
      rw [e, e2] at h1
      exact hn h1
  ok := fun r hr => by
    rcases List.mem_append.mp hr with hr | hr
    · obtain ⟨a, b, c, d⟩ := g.ok r hr
      exact ⟨List.mem_append_left _ a, b, c, fun x hx => List.mem_append_left _ (d x hx)⟩
    · obtain ⟨row, h1, e2⟩ := mem_kinR.mp hr
      obtain ⟨a, b, c, d⟩ := g.ok _ h1
      have h4 := h3 (r.2.1, row) (mem_rulesOf.mpr h1)
      rw [e2]
      refine ⟨List.mem_append_right _ List.mem_cons_self, b, by rw [List.length_append]; exact h4, fun x hx => List.mem_append_left _ ?_⟩
      rcases List.mem_append.mp hx with hx | hx
      · exact d x hx
      · exact hb x hx
  few := fun n => by
    rw [rulesOf_app]
    by_cases c : n = nk
    · rw [rulesOf_none g (fun z => hn (c ▸ z)), List.nil_append]
      have h1 : (rulesOf (kinR rs one behind nk) n).length ≤ (kinR rs one behind nk).length := by
        unfold rulesOf
        rw [List.length_map]
        exact List.length_filter_le _ _
      refine Nat.le_trans h1 ?_
      unfold kinR
      rw [List.length_map]
      exact g.few one
    · have : rulesOf (kinR rs one behind nk) n = [] := by
        rw [List.eq_nil_iff_forall_not_mem]
        intro p hp
        obtain ⟨row, _, e2⟩ := mem_kinR.mp (mem_rulesOf.mp hp)
        exact c (congrArg Prod.fst e2)
      rw [this, List.append_nil]
      exact g.few n
theorem edR_perm {rs qs : List Rule} (h : qs.Perm rs) : ∀ e, e ∈ edR rs → e ∈ edR qs := fun e he => (h.map fun r : Rule => (r.1, r.2.2)).mem_iff.mpr he
/-- what is known of the norms bounds the norms -/
theorem grW_of {names ms : List Str} {rs qs : List Rule} {kvs : List (Key × V)} (g : GoodR names rs) (hp : ms.Perm names) (hq : qs.Perm rs) (nd : names.Nodup) (ne : names ≠ []) (l6 : names.length ≤ 1000) (hl : rs.length ≤ 100) (k : ∀ x ∈ names, KwOk kvs rs 12 x) : ∃ wt : Str → Nat, GrW ms qs wt ∧ ∀ x ∈ names, ∃ z : Nat, valV kvs (Sum.inr x : Key) = some (.int z) ∧ 1 ≤ z ∧ z ≤ 12 ∧ wt x ≤ z := by
  have hd : ∀ x ∈ names, ∃ z v : Nat, valV kvs (Sum.inr x : Key) = some (.int z) ∧ 1 ≤ z ∧ z ≤ 12 ∧ normW qs x = some v ∧ v ≤ z := fun x hx => by
    obtain ⟨z, v, h1, h2, h3, h4, d⟩ := k x hx
    obtain ⟨v2, e, h5⟩ := muW_of (d.more (edR_perm hq))
    exact ⟨z, v2, h1, h2, h3, e, by omega⟩
  refine ⟨fun x => (normW qs x).getD 0, ⟨hp.nodup_iff.mpr nd, fun z => ne (by rw [z] at hp; exact List.length_eq_zero_iff.mp hp.length_eq.symm), by rw [hp.length_eq]; exact l6, fun x hx => ?_, fun x hx => ?_, fun r hr => ?_, ?_⟩, fun x hx => ?_⟩
  · obtain ⟨z, v, _, _, _, e, _⟩ := hd x (hp.mem_iff.mp hx)
    rw [e]
    rfl
  · obtain ⟨z, v, _, _, h3, e, h5⟩ := hd x (hp.mem_iff.mp hx)
    show (normW qs x).getD 0 ≤ 12
    rw [e]
    show v ≤ 12
    omega
  · obtain ⟨a, _, _, d⟩ := g.ok r (hq.mem_iff.mp hr)
    exact ⟨hp.mem_iff.mpr a, fun x hx => hp.mem_iff.mpr (d x hx)⟩
  · refine ⟨by rw [hq.length_eq]; exact hl, fun r hr => ?_⟩
    have := (g.ok r (hq.mem_iff.mp hr)).2.2.1
    omega
  · obtain ⟨z, v, h1, h2, h3, e, h5⟩ := hd x hx
    refine ⟨z, h1, h2, h3, ?_⟩
    show (normW qs x).getD 0 ≤ z
    rw [e]
    exact h5
/-- a drawn grammar of kin, its names and what is known of their norms -/
def GramK (C : Addr) (H : Hp) (g nl kn : Addr) (names ms : List Str) (qs : List Rule) (wt : Str → Nat) (kvs : List (Key × V)) : Prop := GramAt C H g ms qs ∧ GrW ms qs wt ∧ H nl = some (.lst (names.map V.str)) ∧ names ≠ [] ∧ names.length ≤ 6 ∧ (∀ x ∈ names, x ∈ ms) ∧ H kn = some (.dK kvs) ∧ ∀ x ∈ names, ∃ z : Nat, valV kvs (Sum.inr x : Key) = some (.int z) ∧ 1 ≤ z ∧ z ≤ 12 ∧ wt x ≤ z
def sp_gram (C : Addr) : Sp := fun vs H Q _ => ∃ (s : Addr) (n : Nat), vs = [.ref s] ∧ WellAt H s n ∧ n ≤ 100000 ∧ ∀ p g nl kn H' names ms qs wt kvs, But s H H' → WellAt H' s (n + 3000) → H p = none → H' p = some (.tup [.ref g, .ref nl, .ref kn]) → GramK C H' g nl kn names ms qs wt kvs → Q (.ref p) H'
theorem wsum_int {wt : Str → Nat} {kvs : List (Key × V)} : ∀ {row : List Str}, (∀ x ∈ row, ∃ z : Nat, valV kvs (Sum.inr x : Key) = some (.int z) ∧ wt x ≤ z) → ((wsum wt row : Nat) : Int) ≤ (row.map (intOf kvs)).sum
  | [], _ => Int.le_refl _
  | x :: t, h => by
    obtain ⟨z, h1, h2⟩ := h x List.mem_cons_self
    have ih := wsum_int (row := t) fun y hy => h y (List.mem_cons_of_mem _ hy)
    have h3 := intOf_eq ⟨(z : Int), h1⟩
    rw [h1] at h3
    have h4 : (z : Int) = intOf kvs x := V.int.inj (Option.some.inj h3)
    rw [wsum_cons, List.map_cons, List.sum_cons]
    omega
/-! ### roots -/
def isRootN (out : List Str) (m : Nat) : Bool := decide (out.length % m = 0) && decide ((List.replicate m (out.take (out.length / m))).flatten = out)
def rootM (out : List Str) : Nat → Nat
  | 0 => 0
  | m + 1 => if isRootN out (m + 1) = true then m + 1 else rootM out m
/-- the root of a row and how often -/
def rootOf (out : List Str) : List Str × Nat := (out.take (out.length / rootM out out.length), rootM out out.length)
theorem isRoot_one (out : List Str) : isRootN out 1 = true := by
  unfold isRootN
  rw [Nat.mod_one, Nat.div_one, List.take_length]
  simp
theorem rootM_pos {out : List Str} : ∀ {m : Nat}, 1 ≤ m → 1 ≤ rootM out m
  | 0, h => h
  | 1, _ => by
    unfold rootM
    rw [if_pos (isRoot_one out)]
    exact Nat.le_refl _
  | m + 2, _ => by
    unfold rootM
    by_cases c : isRootN out (m + 1 + 1) = true
    · rw [if_pos c]
      exact Nat.succ_le_succ (Nat.zero_le _)
    · rw [if_neg c]
      exact rootM_pos (m := m + 1) (Nat.succ_le_succ (Nat.zero_le _))
theorem rootM_is {out : List Str} : ∀ {m : Nat}, rootM out m = 0 ∨ isRootN out (rootM out m) = true
  | 0 => .inl rfl
  | m + 1 => by
    unfold rootM
    by_cases c : isRootN out (m + 1) = true
    · rw [if_pos c]
      exact .inr c
    · rw [if_neg c]
      exact rootM_is
theorem rootM_le {out : List Str} : ∀ {m : Nat}, rootM out m ≤ m
  | 0 => Nat.le_refl _
  | m + 1 => by
    unfold rootM
    by_cases c : isRootN out (m + 1) = true
    · rw [if_pos c]
      exact Nat.le_refl _
    · rw [if_neg c]
      exact Nat.le_succ_of_le rootM_le
theorem rootOf_rep (out : List Str) : (List.replicate (rootOf out).2 (rootOf out).1).flatten = out := by
  cases out with
  | nil => rfl
  | cons x t =>
    rcases rootM_is (out := x :: t) (m := (x :: t).length) with h | h
    · have := rootM_pos (out := x :: t) (m := (x :: t).length) (by simp)
      omega
    · unfold isRootN at h
      rw [Bool.and_eq_true] at h
      exact of_decide_eq_true h.2
def eNat (n : Nat) : PyData := .int (n : Int)
theorem enc_nat : Enc eNat := fun a b => by
  unfold eNat
  rw [enc_int]
  by_cases c : a = b
  · rw [decide_eq_true c, c]
    exact decide_eq_true rfl
  · rw [decide_eq_false c]
    exact decide_eq_false fun z => c (by omega)
theorem dep_nat : Dep eNat 0 := fun a => dep_int (a : Int)
def eRt : List Str × Nat → PyData := e2 eSs eNat
theorem enc_Rt : Enc eRt := enc_2 enc_Ss enc_nat
theorem dep_Rt : Dep eRt 2 := dep_2 dep_Ss dep_nat
/-- a root told -/
def RootAt (H : Hp) (p c : Addr) (r : List Str × Nat) : Prop := H p = some (.tup [.ref c, .int (r.2 : Int)]) ∧ H c = some (.lst (r.1.map V.str))
theorem RootAt.dp {K : PySem.W.Frag} {H : Hp} {p c : Addr} {r : List Str × Nat} (h : RootAt H p c r) : Dp K H (.ref p) (eRt r) := .tup (SqT.of h.1) (.cons (dp_Ss h.2) (.cons (.int _) .nil))
theorem RootAt.same {H H' : Hp} {p c : Addr} {r : List Str × Nat} (h : RootAt H p c r) (e : Same H H') : RootAt H' p c r := ⟨e _ _ h.1, e _ _ h.2⟩
theorem RootAt.ext {H H' : Hp} {p c : Addr} {r : List Str × Nat} (h : RootAt H p c r) (e : ExtN H H') : RootAt H' p c r := ⟨e _ _ h.1 (fun ps z => by cases z), e.lst h.2⟩
def sp_due71 : Sp := fun vs H Q _ => ∃ (a : Addr) (out : List Str), vs = [.ref a] ∧ H a = some (.lst (out.map V.str)) ∧ out.length ≤ 1000 ∧ ∀ p c H', Same H H' → H p = none → H c = none → RootAt H' p c (rootOf out) → Q (.ref p) H'
def sp_row71 : Sp := fun vs H Q _ => ∃ (s nl kn : Addr) (most n : Nat) (names : List Str) (wt : Str → Nat) (kvs : List (Key × V)), vs = [.ref s, .ref nl, .ref kn, .int (most : Int)] ∧ WellAt H s n ∧ n ≤ 1000000 ∧ H nl = some (.lst (names.map V.str)) ∧ names ≠ [] ∧ names.length ≤ 6 ∧ H kn = some (.dK kvs) ∧ (∀ x ∈ names, ∃ z : Nat, valV kvs (Sum.inr x : Key) = some (.int z) ∧ 1 ≤ z ∧ z ≤ 12 ∧ wt x ≤ z) ∧
  ∀ p H' (row : List Str), But s H H' → WellAt H' s (n + 10) → H p = none → H' p = some (.lst (row.map V.str)) → (∀ x ∈ row, x ∈ names) → wsum wt row ≤ most → row.length ≤ 4 → Q (.ref p) H'
theorem root_nil : rootOf [] = ([], 0) := rfl
theorem butX_cell {s c : Addr} {H H1 H2 : Hp} (b : ButX s H H1) (e : ExtN H1 H2) : ButX s H H2 := b.trans (butX_ext e)
/-- what the law draws in a cell stands -/
structure Cell71 (T : List (Addr × Str)) (C : Addr) (H0 H : Hp) (s g nl kn : Addr) (names ms : List Str) (qs : List Rule) (wt : Str → Nat) (kvs : List (Key × V)) (n : Nat) : Prop where
  bx : ButX s H0 H
  tb : Tabs T H
  w : WellAt H s n
  gr : GramAt C H g ms qs
  nm : H nl = some (.lst (names.map V.str))
theorem Cell71.but {T : List (Addr × Str)} {C : Addr} {H0 H H' : Hp} {s g nl kn : Addr} {names ms : List Str} {qs : List Rule} {wt : Str → Nat} {kvs : List (Key × V)} {n m : Nat} (c : Cell71 T C H0 H s g nl kn names ms qs wt kvs n) (b : But s H H') (w : WellAt H' s m) : Cell71 T C H0 H' s g nl kn names ms qs wt kvs m :=
  ⟨c.bx.trans (butX_but b), tabs_well c.tb c.w b, w, c.gr.but c.w b, b _ _ (c.w.ne_strs c.nm) c.nm⟩
theorem Cell71.ext {T : List (Addr × Str)} {C : Addr} {H0 H H' : Hp} {s g nl kn : Addr} {names ms : List Str} {qs : List Rule} {wt : Str → Nat} {kvs : List (Key × V)} {n : Nat} (c : Cell71 T C H0 H s g nl kn names ms qs wt kvs n) (e : ExtN H H') (t : Tabs T H') : Cell71 T C H0 H' s g nl kn names ms qs wt kvs n :=
  ⟨c.bx.trans (butX_ext e), t, wellX c.w e, c.gr.ext e, e.lst c.nm⟩
theorem Cell71.same {T : List (Addr × Str)} {C : Addr} {H0 H H' : Hp} {s g nl kn : Addr} {names ms : List Str} {qs : List Rule} {wt : Str → Nat} {kvs : List (Key × V)} {n : Nat} (c : Cell71 T C H0 H s g nl kn names ms qs wt kvs n) (e : Same H H') : Cell71 T C H0 H' s g nl kn names ms qs wt kvs n := c.ext (extN_same e) (tabs_same c.tb e)
theorem Cell71.up {T : List (Addr × Str)} {C : Addr} {H0 H : Hp} {s g nl kn : Addr} {names ms : List Str} {qs : List Rule} {wt : Str → Nat} {kvs : List (Key × V)} {n m : Nat} (c : Cell71 T C H0 H s g nl kn names ms qs wt kvs n) (h : n ≤ m) : Cell71 T C H0 H s g nl kn names ms qs wt kvs m := ⟨c.bx, c.tb, c.w.mono h, c.gr, c.nm⟩
end SG
/-! rows within rows, beginnings and ends -/
namespace SG
open PySem PySem.Spec PyProof.Rows L2 LamX
theorem outF_len {names : List Str} {rs : List Rule} {wt : Str → Nat} (g : GrW names rs wt) (bag : Bool) {one : List Str} (h : ∀ x ∈ one, x ∈ names) : (outK bag (finB bag rs wt (ordW names wt)) one).length ≤ wsum wt one ∧ ∀ x ∈ outK bag (finB bag rs wt (ordW names wt)) one, x ∈ names := by
  have b := finB_inv (bag := bag) g.gw
  have h1 : ∀ x ∈ outK bag (finB bag rs wt (ordW names wt)) one, x ∈ ordW names wt := fun x hx => (outs_in b (fun n hn => (ordW_perm names wt).mem_iff.mpr (h n hn)) x ((outK_perm _ _ _).mem_iff.mp hx)).1
  refine ⟨?_, fun x hx => (ordW_perm names wt).mem_iff.mp (h1 x hx)⟩
  rw [← outK_wsum b bag one]
  exact wsum_len fun x hx => g.gw.pos (h1 x hx)
theorem outF_wsum {names : List Str} {rs : List Rule} {wt : Str → Nat} (g : GrW names rs wt) (bag : Bool) (one : List Str) : wsum wt (outK bag (finB bag rs wt (ordW names wt)) one) = wsum wt one := outK_wsum (finB_inv g.gw) bag one
theorem cut_mid (xs : List V) (a k : Nat) : cutV xs (some (a : Int)) (some (((a + k : Nat)) : Int)) = (xs.drop a).take k := by
  have h1 := cut_ge xs a
  have e1 : cutV xs (some (a : Int)) (some (((a + k : Nat)) : Int)) = (xs.drop (HT.sIx xs.length 0 (some (a : Int)))).take (HT.sIx xs.length xs.length (some (((a + k : Nat)) : Int)) - HT.sIx xs.length 0 (some (a : Int))) := rfl
  have e2 : ∀ (d n : Nat), HT.sIx xs.length d (some (n : Int)) = min n xs.length := fun d n => by
    unfold HT.sIx
    simp
    omega
  rw [e1, e2, e2]
  by_cases c : a ≤ xs.length
  · rw [Nat.min_eq_left c]
    by_cases c2 : a + k ≤ xs.length
    · rw [Nat.min_eq_left c2, Nat.add_sub_cancel_left]
    · rw [Nat.min_eq_right (by omega), List.take_of_length_le (by rw [List.length_drop]; omega), List.take_of_length_le (by rw [List.length_drop]; omega)]
  · rw [Nat.min_eq_right (show xs.length ≤ a by omega), List.drop_eq_nil_of_le (Nat.le_refl _), List.drop_eq_nil_of_le (show xs.length ≤ a by omega)]
    simp
/-- where a row stands within another one: the norms of what is ahead -/
def placesN (wt : Str → Nat) (part row : List Str) (n : Nat) : List Int := ((List.range n).filter fun at' => decide ((row.drop at').take part.length = part)).map fun at' => ((wsum wt (row.take at') : Nat) : Int)
theorem placesN_succ (wt : Str → Nat) (part row : List Str) (n : Nat) : placesN wt part row (n + 1) = if decide ((row.drop n).take part.length = part) = true then placesN wt part row n ++ [((wsum wt (row.take n) : Nat) : Int)] else placesN wt part row n := by
  unfold placesN
  rw [List.range_succ, List.filter_append, List.map_append]
  by_cases c : decide ((row.drop n).take part.length = part) = true
  · rw [if_pos c, List.filter_cons, if_pos c]
    rfl
  · rw [if_neg c, List.filter_cons, if_neg c]
    simp
theorem placesN_len (wt : Str → Nat) (part row : List Str) (n : Nat) : (placesN wt part row n).length ≤ n := by
  unfold placesN
  rw [List.length_map]
  exact Nat.le_trans (List.length_filter_le _ _) (by rw [List.length_range]; exact Nat.le_refl _)
theorem placesN_more (wt : Str → Nat) (part row : List Str) : ∀ k, row.length + 1 - part.length + k ≤ row.length + 1 → placesN wt part row (row.length + 1 - part.length + k) = placesN wt part row (row.length + 1 - part.length)
  | 0, _ => rfl
  | k + 1, h => by
    rw [← Nat.add_assoc, placesN_succ, if_neg, placesN_more wt part row k (by omega)]
    intro z
    have z := congrArg List.length (of_decide_eq_true z)
    rw [List.length_take, List.length_drop] at z
    omega
theorem placesN_all (wt : Str → Nat) (part row : List Str) : placesN wt part row (row.length + 1) = placesN wt part row (row.length + 1 - part.length) := by
  by_cases c : part.length ≤ row.length + 1
  · have h := placesN_more wt part row part.length (by omega)
    rw [Nat.sub_add_cancel c] at h
    exact h
  · rw [show row.length + 1 - part.length = 0 by omega]
    have h := placesN_more wt part row (row.length + 1) (by omega)
    rw [show row.length + 1 - part.length + (row.length + 1) = row.length + 1 by omega, show row.length + 1 - part.length = 0 by omega] at h
    exact h
theorem placesN_self (wt : Str → Nat) (row : List Str) : placesN wt row row (row.length + 1 - row.length) = [0] := by
  rw [show row.length + 1 - row.length = 0 + 1 by omega, placesN_succ, if_pos (decide_eq_true (by rw [List.drop_zero, List.take_length]))]
  rfl
end SG
/-! common beginnings and ends -/
namespace SG
open PySem PySem.Spec PyProof.Rows L2 LamX
def soN : List Str → List Str → Nat
  | x :: xs, y :: ys => if x = y then soN xs ys + 1 else 0
  | _, _ => 0
theorem soN_comm : ∀ xs ys : List Str, soN xs ys = soN ys xs
  | [], [] => rfl
  | [], _ :: _ => rfl
  | _ :: _, [] => rfl
  | x :: xs, y :: ys => by
    unfold soN
    by_cases c : x = y
    · rw [if_pos c, if_pos c.symm, soN_comm xs ys]
    · rw [if_neg c, if_neg fun z => c z.symm]
theorem soN_nil (xs : List Str) : soN xs [] = 0 := by cases xs <;> rfl
theorem soN_le : ∀ xs ys : List Str, soN xs ys ≤ xs.length
  | [], ys => by cases ys <;> exact Nat.zero_le _
  | x :: xs, [] => Nat.zero_le _
  | x :: xs, y :: ys => by
    unfold soN
    by_cases c : x = y
    · rw [if_pos c, List.length_cons]
      exact Nat.succ_le_succ (soN_le xs ys)
    · rw [if_neg c]
      exact Nat.zero_le _
theorem soN_take : ∀ xs ys : List Str, xs.take (soN xs ys) = ys.take (soN xs ys)
  | [], ys => by cases ys <;> rfl
  | x :: xs, [] => rfl
  | x :: xs, y :: ys => by
    unfold soN
    by_cases c : x = y
    · rw [if_pos c, List.take_succ_cons, List.take_succ_cons, soN_take xs ys, c]
    · rw [if_neg c]
      rfl
theorem soN_self : ∀ xs : List Str, soN xs xs = xs.length
  | [] => rfl
  | x :: xs => by
    unfold soN
    rw [if_pos rfl, soN_self xs]
    rfl
theorem soN_most : ∀ {xs ys : List Str} {k : Nat}, k ≤ xs.length → k ≤ ys.length → xs.take k = ys.take k → k ≤ soN xs ys
  | _, _, 0, _, _, _ => Nat.zero_le _
  | [], _, k + 1, h, _, _ => by simp at h
  | x :: xs, [], k + 1, _, h, _ => by simp at h
  | x :: xs, y :: ys, k + 1, h1, h2, e => by
    rw [List.take_succ_cons, List.take_succ_cons] at e
    have e := List.cons.inj e
    unfold soN
    rw [if_pos e.1]
    exact Nat.succ_le_succ (soN_most (Nat.le_of_succ_le_succ h1) (Nat.le_of_succ_le_succ h2) e.2)
theorem soN_step {xs ys : List Str} {i : Nat} {x y : Str} (h1 : xs[i]? = some x) (h2 : ys[i]? = some y) : soN (xs.drop i) (ys.drop i) = if x = y then soN (xs.drop (i + 1)) (ys.drop (i + 1)) + 1 else 0 := by
  obtain ⟨h3, e3⟩ := List.getElem?_eq_some_iff.mp h1
  obtain ⟨h4, e4⟩ := List.getElem?_eq_some_iff.mp h2
  rw [List.drop_eq_getElem_cons h3, List.drop_eq_getElem_cons h4, e3, e4]
  rfl
/-- the common beginning -/
def beginN (xs ys : List Str) : List Str := xs.take (soN xs ys)
def endN (xs ys : List Str) : List Str := xs.drop (xs.length - soN xs.reverse ys.reverse)
theorem beginN_comm (xs ys : List Str) : beginN xs ys = beginN ys xs := by
  unfold beginN
  rw [soN_take, soN_comm]
theorem beginN_self (xs : List Str) : beginN xs xs = xs := by
  unfold beginN
  rw [soN_self, List.take_length]
theorem endN_rev (xs ys : List Str) : (beginN xs.reverse ys.reverse).reverse = endN xs ys := by
  unfold beginN endN
  rw [List.reverse_take, List.reverse_reverse, List.length_reverse]
theorem endN_comm (xs ys : List Str) : endN xs ys = endN ys xs := by
  rw [← endN_rev, beginN_comm, endN_rev]
theorem endN_self (xs : List Str) : endN xs xs = xs := by
  rw [← endN_rev, beginN_self, List.reverse_reverse]
theorem beginN_len (xs ys : List Str) : (beginN xs ys).length ≤ xs.length := by
  unfold beginN
  rw [List.length_take]
  exact Nat.min_le_right _ _
theorem endN_len (xs ys : List Str) : (endN xs ys).length ≤ xs.length := by
  unfold endN
  rw [List.length_drop]
  omega
def sp_so : Sp := fun vs H Q _ => ∃ (a b : Addr) (xs ys : List Str), vs = [.ref a, .ref b] ∧ H a = some (.lst (xs.map V.str)) ∧ H b = some (.lst (ys.map V.str)) ∧ xs.length ≤ 1000 ∧ ys.length ≤ 1000 ∧ Q (.int ((soN xs ys : Nat) : Int)) H
def sp_same : Sp := fun vs H Q _ => ∃ (a b : Addr) (xs ys : List Str), vs = [.ref a, .ref b] ∧ H a = some (.lst (xs.map V.str)) ∧ H b = some (.lst (ys.map V.str)) ∧ xs.length ≤ 1000 ∧ ys.length ≤ 1000 ∧ ∀ p H', Same H H' → H p = none → H' p = some (.lst ((beginN xs ys).map V.str)) → Q (.ref p) H'
end SG
namespace SG
open PySem PySem.Spec PyProof.Rows L2 LamX
def topS (i : Nat) : Stmt := PySem.Challenge.pw_samegoing_k68_common_beginnings_and_ends.main.body.getD i (.Pass ⟨0, 0, 0, 0⟩)
abbrev s_is_small : Stmt := topS 41
abbrev s_is_name : Stmt := topS 42
abbrev s_is_letter : Stmt := topS 43
abbrev s_are_names : Stmt := topS 44
abbrev s_Grammar___init__ : Stmt := inClass (topS 45) 0
abbrev s_Grammar_lets_by : Stmt := inClass (topS 45) 1
abbrev s_Grammar_names : Stmt := inClass (topS 45) 2
abbrev s_Grammar_has : Stmt := inClass (topS 45) 3
abbrev s_Grammar_rules_of : Stmt := inClass (topS 45) 4
abbrev s_look_at_names : Stmt := topS 7
abbrev s_each_once : Stmt := topS 8
abbrev s_row_steps : Stmt := topS 9
abbrev s_bag_steps : Stmt := topS 10
abbrev s_steps_of : Stmt := topS 11
abbrev s_added_up : Stmt := topS 16
abbrev s_norms : Stmt := topS 17
abbrev s_lessening : Stmt := topS 19
abbrev s_weighed : Stmt := topS 20
abbrev s_put_out : Stmt := topS 22
abbrev s_outs_of : Stmt := topS 23
abbrev s_by_norms : Stmt := topS 25
abbrev s_base_of_norms : Stmt := topS 26
abbrev s_without : Stmt := topS 27
abbrev s_Refining___init__ : Stmt := inClass (topS 28) 0
abbrev s_Refining_lessened : Stmt := inClass (topS 28) 1
abbrev s_Refining_candidates : Stmt := inClass (topS 28) 2
abbrev s_Refining_outs_by : Stmt := inClass (topS 28) 4
abbrev s_Refining_passes : Stmt := inClass (topS 28) 3
abbrev s_Refining_take : Stmt := inClass (topS 28) 5
abbrev s_refined : Stmt := topS 29
abbrev s_bases_of : Stmt := topS 30
abbrev s_made_of : Stmt := topS 47
abbrev s_Made___init__ : Stmt := inClass (topS 32) 0
abbrev s_Made_out : Stmt := inClass (topS 32) 1
abbrev s_like_so_far : Stmt := topS 33
abbrev s_common_begin : Stmt := topS 34
abbrev s_common_end : Stmt := topS 35
abbrev s__law_cell_at : Stmt := topS 49
abbrev s__law_well : Stmt := topS 50
abbrev s__law_draw : Stmt := topS 51
abbrev s__law_one : Stmt := topS 52
abbrev s__law_names : Stmt := topS 53
abbrev s__law_signs : Stmt := topS 54
abbrev s__law_mixed : Stmt := topS 55
abbrev s__law_rules : Stmt := topS 56
abbrev s__law_kin : Stmt := topS 57
abbrev s__law_grammar : Stmt := topS 58
abbrev s__law_row : Stmt := topS 59
abbrev s__law_same : Stmt := topS 60
abbrev s_law : Stmt := topS 61
structure Ad where
  c_Grammar : Addr
  c_Refining : Addr
  c_Made : Addr
  a_is_small : Addr
  d_is_small : FuncData
  a_is_name : Addr
  d_is_name : FuncData
  a_is_letter : Addr
  d_is_letter : FuncData
  a_are_names : Addr
  d_are_names : FuncData
  a_Grammar___init__ : Addr
  d_Grammar___init__ : FuncData
  a_Grammar_lets_by : Addr
  d_Grammar_lets_by : FuncData
  a_Grammar_names : Addr
  d_Grammar_names : FuncData
  a_Grammar_has : Addr
  d_Grammar_has : FuncData
  a_Grammar_rules_of : Addr
  d_Grammar_rules_of : FuncData
  a_look_at_names : Addr
  d_look_at_names : FuncData
  a_each_once : Addr
  d_each_once : FuncData
  a_row_steps : Addr
  d_row_steps : FuncData
  a_bag_steps : Addr
  d_bag_steps : FuncData
  a_steps_of : Addr
  d_steps_of : FuncData
  a_added_up : Addr
  d_added_up : FuncData
  a_norms : Addr
  d_norms : FuncData
  a_lessening : Addr
  d_lessening : FuncData
  a_weighed : Addr
  d_weighed : FuncData
  a_put_out : Addr
  d_put_out : FuncData
  a_outs_of : Addr
  d_outs_of : FuncData
  a_by_norms : Addr
  d_by_norms : FuncData
  a_base_of_norms : Addr
  d_base_of_norms : FuncData
  a_without : Addr
  d_without : FuncData
  a_Refining___init__ : Addr
  d_Refining___init__ : FuncData
  a_Refining_lessened : Addr
  d_Refining_lessened : FuncData
  a_Refining_candidates : Addr
  d_Refining_candidates : FuncData
  a_Refining_outs_by : Addr
  d_Refining_outs_by : FuncData
  a_Refining_passes : Addr
  d_Refining_passes : FuncData
  a_Refining_take : Addr
  d_Refining_take : FuncData
  a_refined : Addr
  d_refined : FuncData
  a_bases_of : Addr
  d_bases_of : FuncData
  a_made_of : Addr
  d_made_of : FuncData
  a_Made___init__ : Addr
  d_Made___init__ : FuncData
  a_Made_out : Addr
  d_Made_out : FuncData
  a_like_so_far : Addr
  d_like_so_far : FuncData
  a_common_begin : Addr
  d_common_begin : FuncData
  a_common_end : Addr
  d_common_end : FuncData
  a__law_cell_at : Addr
  d__law_cell_at : FuncData
  a__law_well : Addr
  d__law_well : FuncData
  a__law_draw : Addr
  d__law_draw : FuncData
  a__law_one : Addr
  d__law_one : FuncData
  a__law_names : Addr
  d__law_names : FuncData
  a__law_signs : Addr
  d__law_signs : FuncData
  a__law_mixed : Addr
  d__law_mixed : FuncData
  a__law_rules : Addr
  d__law_rules : FuncData
  a__law_kin : Addr
  d__law_kin : FuncData
  a__law_grammar : Addr
  d__law_grammar : FuncData
  a__law_row : Addr
  d__law_row : FuncData
  a__law_same : Addr
  d__law_same : FuncData
  k_lam : Addr
  p_lam : Addr
structure Txt (K : PySem.W.Frag) (mg : Str → Option Value) (A : Ad) : Prop where
  cl_Grammar : Cls K A.c_Grammar
  g_Grammar : mg "Grammar" = some (.ref A.c_Grammar)
  n_Grammar_known : NoAttr K A.c_Grammar "known"
  n_Grammar_stored : NoAttr K A.c_Grammar "stored"
  n_Grammar_order : NoAttr K A.c_Grammar "order"
  mk_Grammar : Mk K A.c_Grammar A.a_Grammar___init__
  cl_Refining : Cls K A.c_Refining
  g_Refining : mg "Refining" = some (.ref A.c_Refining)
  n_Refining_grammar : NoAttr K A.c_Refining "grammar"
  n_Refining_kind : NoAttr K A.c_Refining "kind"
  n_Refining_known : NoAttr K A.c_Refining "known"
  n_Refining_old : NoAttr K A.c_Refining "old"
  n_Refining_base : NoAttr K A.c_Refining "base"
  n_Refining_firsts : NoAttr K A.c_Refining "firsts"
  mk_Refining : Mk K A.c_Refining A.a_Refining___init__
  cl_Made : Cls K A.c_Made
  g_Made : mg "Made" = some (.ref A.c_Made)
  n_Made_known : NoAttr K A.c_Made "known"
  n_Made_base : NoAttr K A.c_Made "base"
  mk_Made : Mk K A.c_Made A.a_Made___init__
  F_is_small : Fun K "is_small" "is_small" s_is_small A.a_is_small A.d_is_small
  g_is_small : mg "is_small" = some (.ref A.a_is_small)
  b_is_small : Binds K A.d_is_small ["text"] []
  F_is_name : Fun K "is_name" "is_name" s_is_name A.a_is_name A.d_is_name
  g_is_name : mg "is_name" = some (.ref A.a_is_name)
  b_is_name : Binds K A.d_is_name ["text"] []
  F_is_letter : Fun K "is_letter" "is_letter" s_is_letter A.a_is_letter A.d_is_letter
  g_is_letter : mg "is_letter" = some (.ref A.a_is_letter)
  b_is_letter : Binds K A.d_is_letter ["text"] []
  F_are_names : Fun K "are_names" "are_names" s_are_names A.a_are_names A.d_are_names
  g_are_names : mg "are_names" = some (.ref A.a_are_names)
  b_are_names : Binds K A.d_are_names ["names"] []
  F_Grammar___init__ : Fun K "__init__" "Grammar.__init__" s_Grammar___init__ A.a_Grammar___init__ A.d_Grammar___init__
  m_Grammar___init__ : Meth K A.c_Grammar "__init__" A.a_Grammar___init__
  b_Grammar___init__ : Binds K A.d_Grammar___init__ ["self", "names", "rules"] []
  F_Grammar_lets_by : Fun K "lets_by" "Grammar.lets_by" s_Grammar_lets_by A.a_Grammar_lets_by A.d_Grammar_lets_by
  m_Grammar_lets_by : Meth K A.c_Grammar "lets_by" A.a_Grammar_lets_by
  b_Grammar_lets_by : Binds K A.d_Grammar_lets_by ["self", "rule"] []
  F_Grammar_names : Fun K "names" "Grammar.names" s_Grammar_names A.a_Grammar_names A.d_Grammar_names
  m_Grammar_names : Meth K A.c_Grammar "names" A.a_Grammar_names
  b_Grammar_names : Binds K A.d_Grammar_names ["self"] []
  F_Grammar_has : Fun K "has" "Grammar.has" s_Grammar_has A.a_Grammar_has A.d_Grammar_has
  m_Grammar_has : Meth K A.c_Grammar "has" A.a_Grammar_has
  b_Grammar_has : Binds K A.d_Grammar_has ["self", "name"] []
  F_Grammar_rules_of : Fun K "rules_of" "Grammar.rules_of" s_Grammar_rules_of A.a_Grammar_rules_of A.d_Grammar_rules_of
  m_Grammar_rules_of : Meth K A.c_Grammar "rules_of" A.a_Grammar_rules_of
  b_Grammar_rules_of : Binds K A.d_Grammar_rules_of ["self", "name"] []
  F_look_at_names : Fun K "look_at_names" "look_at_names" s_look_at_names A.a_look_at_names A.d_look_at_names
  g_look_at_names : mg "look_at_names" = some (.ref A.a_look_at_names)
  b_look_at_names : Binds K A.d_look_at_names ["grammar", "row"] []
  F_each_once : Fun K "each_once" "each_once" s_each_once A.a_each_once A.d_each_once
  g_each_once : mg "each_once" = some (.ref A.a_each_once)
  b_each_once : Binds K A.d_each_once ["steps"] []
  F_row_steps : Fun K "row_steps" "row_steps" s_row_steps A.a_row_steps A.d_row_steps
  g_row_steps : mg "row_steps" = some (.ref A.a_row_steps)
  b_row_steps : Binds K A.d_row_steps ["grammar", "row"] []
  F_bag_steps : Fun K "bag_steps" "bag_steps" s_bag_steps A.a_bag_steps A.d_bag_steps
  g_bag_steps : mg "bag_steps" = some (.ref A.a_bag_steps)
  b_bag_steps : Binds K A.d_bag_steps ["grammar", "bag"] []
  F_steps_of : Fun K "steps_of" "steps_of" s_steps_of A.a_steps_of A.d_steps_of
  g_steps_of : mg "steps_of" = some (.ref A.a_steps_of)
  b_steps_of : Binds K A.d_steps_of ["grammar", "kind", "one"] []
  F_added_up : Fun K "added_up" "added_up" s_added_up A.a_added_up A.d_added_up
  g_added_up : mg "added_up" = some (.ref A.a_added_up)
  b_added_up : Binds K A.d_added_up ["norms", "row"] []
  F_norms : Fun K "norms" "norms" s_norms A.a_norms A.d_norms
  g_norms : mg "norms" = some (.ref A.a_norms)
  b_norms : Binds K A.d_norms ["grammar"] []
  F_lessening : Fun K "lessening" "lessening" s_lessening A.a_lessening A.d_lessening
  g_lessening : mg "lessening" = some (.ref A.a_lessening)
  b_lessening : Binds K A.d_lessening ["grammar", "known", "name"] []
  F_weighed : Fun K "weighed" "weighed" s_weighed A.a_weighed A.d_weighed
  g_weighed : mg "weighed" = some (.ref A.a_weighed)
  b_weighed : Binds K A.d_weighed ["grammar", "kind", "rows"] []
  F_put_out : Fun K "put_out" "put_out" s_put_out A.a_put_out A.d_put_out
  g_put_out : mg "put_out" = some (.ref A.a_put_out)
  b_put_out : Binds K A.d_put_out ["kind", "base", "one"] []
  F_outs_of : Fun K "outs_of" "outs_of" s_outs_of A.a_outs_of A.d_outs_of
  g_outs_of : mg "outs_of" = some (.ref A.a_outs_of)
  b_outs_of : Binds K A.d_outs_of ["kind", "base", "steps"] []
  F_by_norms : Fun K "by_norms" "by_norms" s_by_norms A.a_by_norms A.d_by_norms
  g_by_norms : mg "by_norms" = some (.ref A.a_by_norms)
  b_by_norms : Binds K A.d_by_norms ["grammar", "known"] []
  F_base_of_norms : Fun K "base_of_norms" "base_of_norms" s_base_of_norms A.a_base_of_norms A.d_base_of_norms
  g_base_of_norms : mg "base_of_norms" = some (.ref A.a_base_of_norms)
  b_base_of_norms : Binds K A.d_base_of_norms ["grammar", "known"] []
  F_without : Fun K "without" "without" s_without A.a_without A.d_without
  g_without : mg "without" = some (.ref A.a_without)
  b_without : Binds K A.d_without ["kind", "whole", "part"] []
  F_Refining___init__ : Fun K "__init__" "Refining.__init__" s_Refining___init__ A.a_Refining___init__ A.d_Refining___init__
  m_Refining___init__ : Meth K A.c_Refining "__init__" A.a_Refining___init__
  b_Refining___init__ : Binds K A.d_Refining___init__ ["self", "grammar", "kind", "known", "old"] []
  F_Refining_lessened : Fun K "lessened" "Refining.lessened" s_Refining_lessened A.a_Refining_lessened A.d_Refining_lessened
  m_Refining_lessened : Meth K A.c_Refining "lessened" A.a_Refining_lessened
  b_Refining_lessened : Binds K A.d_Refining_lessened ["self", "one"] []
  F_Refining_candidates : Fun K "candidates" "Refining.candidates" s_Refining_candidates A.a_Refining_candidates A.d_Refining_candidates
  m_Refining_candidates : Meth K A.c_Refining "candidates" A.a_Refining_candidates
  b_Refining_candidates : Binds K A.d_Refining_candidates ["self", "name"] []
  F_Refining_outs_by : Fun K "outs_by" "Refining.outs_by" s_Refining_outs_by A.a_Refining_outs_by A.d_Refining_outs_by
  m_Refining_outs_by : Meth K A.c_Refining "outs_by" A.a_Refining_outs_by
  b_Refining_outs_by : Binds K A.d_Refining_outs_by ["self", "base", "one", "less"] []
  F_Refining_passes : Fun K "passes" "Refining.passes" s_Refining_passes A.a_Refining_passes A.d_Refining_passes
  m_Refining_passes : Meth K A.c_Refining "passes" A.a_Refining_passes
  b_Refining_passes : Binds K A.d_Refining_passes ["self", "name", "making"] []
  F_Refining_take : Fun K "take" "Refining.take" s_Refining_take A.a_Refining_take A.d_Refining_take
  m_Refining_take : Meth K A.c_Refining "take" A.a_Refining_take
  b_Refining_take : Binds K A.d_Refining_take ["self", "name"] []
  F_refined : Fun K "refined" "refined" s_refined A.a_refined A.d_refined
  g_refined : mg "refined" = some (.ref A.a_refined)
  b_refined : Binds K A.d_refined ["grammar", "kind", "known", "old"] []
  F_bases_of : Fun K "bases_of" "bases_of" s_bases_of A.a_bases_of A.d_bases_of
  g_bases_of : mg "bases_of" = some (.ref A.a_bases_of)
  b_bases_of : Binds K A.d_bases_of ["grammar", "kind", "known"] []
  F_made_of : Fun K "made_of" "made_of" s_made_of A.a_made_of A.d_made_of
  g_made_of : mg "made_of" = some (.ref A.a_made_of)
  b_made_of : Binds K A.d_made_of ["grammar", "kind", "one"] []
  F_Made___init__ : Fun K "__init__" "Made.__init__" s_Made___init__ A.a_Made___init__ A.d_Made___init__
  m_Made___init__ : Meth K A.c_Made "__init__" A.a_Made___init__
  b_Made___init__ : Binds K A.d_Made___init__ ["self", "grammar", "rows"] []
  F_Made_out : Fun K "out" "Made.out" s_Made_out A.a_Made_out A.d_Made_out
  m_Made_out : Meth K A.c_Made "out" A.a_Made_out
  b_Made_out : Binds K A.d_Made_out ["self", "row"] []
  F_like_so_far : Fun K "like_so_far" "like_so_far" s_like_so_far A.a_like_so_far A.d_like_so_far
  g_like_so_far : mg "like_so_far" = some (.ref A.a_like_so_far)
  b_like_so_far : Binds K A.d_like_so_far ["one", "other"] []
  F_common_begin : Fun K "common_begin" "common_begin" s_common_begin A.a_common_begin A.d_common_begin
  g_common_begin : mg "common_begin" = some (.ref A.a_common_begin)
  b_common_begin : Binds K A.d_common_begin ["grammar", "one", "other"] []
  F_common_end : Fun K "common_end" "common_end" s_common_end A.a_common_end A.d_common_end
  g_common_end : mg "common_end" = some (.ref A.a_common_end)
  b_common_end : Binds K A.d_common_end ["grammar", "one", "other"] []
  F__law_cell_at : Fun K "_law_cell_at" "_law_cell_at" s__law_cell_at A.a__law_cell_at A.d__law_cell_at
  g__law_cell_at : mg "_law_cell_at" = some (.ref A.a__law_cell_at)
  b__law_cell_at : Binds K A.d__law_cell_at ["_law_script", "_law_k"] []
  F__law_well : Fun K "_law_well" "_law_well" s__law_well A.a__law_well A.d__law_well
  g__law_well : mg "_law_well" = some (.ref A.a__law_well)
  b__law_well : Binds K A.d__law_well ["_law_cell"] []
  F__law_draw : Fun K "_law_draw" "_law_draw" s__law_draw A.a__law_draw A.d__law_draw
  g__law_draw : mg "_law_draw" = some (.ref A.a__law_draw)
  b__law_draw : Binds K A.d__law_draw ["_law_well_here", "_law_many"] []
  F__law_one : Fun K "_law_one" "_law_one" s__law_one A.a__law_one A.d__law_one
  g__law_one : mg "_law_one" = some (.ref A.a__law_one)
  b__law_one : Binds K A.d__law_one ["_law_well_here", "_law_some"] []
  F__law_names : Fun K "_law_names" "_law_names" s__law_names A.a__law_names A.d__law_names
  g__law_names : mg "_law_names" = some (.ref A.a__law_names)
  b__law_names : Binds K A.d__law_names ["_law_well_here", "_law_many"] []
  F__law_signs : Fun K "_law_signs" "_law_signs" s__law_signs A.a__law_signs A.d__law_signs
  g__law_signs : mg "_law_signs" = some (.ref A.a__law_signs)
  b__law_signs : Binds K A.d__law_signs ["_law_well_here", "_law_many"] []
  F__law_mixed : Fun K "_law_mixed" "_law_mixed" s__law_mixed A.a__law_mixed A.d__law_mixed
  g__law_mixed : mg "_law_mixed" = some (.ref A.a__law_mixed)
  b__law_mixed : Binds K A.d__law_mixed ["_law_well_here", "_law_some"] []
  F__law_rules : Fun K "_law_rules" "_law_rules" s__law_rules A.a__law_rules A.d__law_rules
  g__law_rules : mg "_law_rules" = some (.ref A.a__law_rules)
  b__law_rules : Binds K A.d__law_rules ["_law_well_here", "_law_names_here", "_law_signs_here", "_law_plain", "_law_most"] []
  F__law_kin : Fun K "_law_kin" "_law_kin" s__law_kin A.a__law_kin A.d__law_kin
  g__law_kin : mg "_law_kin" = some (.ref A.a__law_kin)
  b__law_kin : Binds K A.d__law_kin ["_law_well_here", "_law_rules_here", "_law_known", "_law_names_here", "_law_name"] []
  F__law_grammar : Fun K "_law_grammar" "_law_grammar" s__law_grammar A.a__law_grammar A.d__law_grammar
  g__law_grammar : mg "_law_grammar" = some (.ref A.a__law_grammar)
  b__law_grammar : Binds K A.d__law_grammar ["_law_well_here"] []
  F__law_row : Fun K "_law_row" "_law_row" s__law_row A.a__law_row A.d__law_row
  g__law_row : mg "_law_row" = some (.ref A.a__law_row)
  b__law_row : Binds K A.d__law_row ["_law_well_here", "_law_names_here", "_law_known", "_law_most"] []
  F__law_same : Fun K "_law_same" "_law_same" s__law_same A.a__law_same A.d__law_same
  g__law_same : mg "_law_same" = some (.ref A.a__law_same)
  b__law_same : Binds K A.d__law_same ["_law_one_here", "_law_other"] []
  c_SMALL : ∃ t, mg "SMALL" = some (.str "abcdefghijklmnopqrstuvwxyz" t)
  c_MOST_NAMES : ∃ t, mg "MOST_NAMES" = some (.int 6 t)
  c_MOST_RULES : ∃ t, mg "MOST_RULES" = some (.int 4 t)
  c_MOST_ROW : ∃ t, mg "MOST_ROW" = some (.int 3 t)
  c_MOST_NORM : ∃ t, mg "MOST_NORM" = some (.int 12 t)
  c_MOST_ROW_NORM : ∃ t, mg "MOST_ROW_NORM" = some (.int 24 t)
  c_MOST_BAG_NORM : ∃ t, mg "MOST_BAG_NORM" = some (.int 16 t)
  len : mg "len" = none
  set_ : mg "set" = none
  all : mg "all" = none
  any : mg "any" = none
  list_ : mg "list" = none
  enumerate : mg "enumerate" = none
  range : mg "range" = none
  sum : mg "sum" = none
  sorted : mg "sorted" = none
  dict_ : mg "dict" = none
  int_ : mg "int" = none
  isinstance : mg "isinstance" = none
  max : mg "max" = none
  min : mg "min" = none
  tuple_ : mg "tuple" = none
  bool_ : mg "bool" = none
  code_lam : A.d_by_norms.code = .ref A.k_lam
def tabT (A : Ad) : List (Addr × Str) := [(A.p_lam, "by_norms.<locals>.<lambda>")]
theorem sc_is_small : FnScope ["text", "sign"] ["text"] (defScope s_is_small) := ⟨rfl, rfl, rfl, by decide +kernel, rfl, by decide +kernel, by decide +kernel⟩
theorem sc_is_name : FnScope ["text"] ["text"] (defScope s_is_name) := ⟨rfl, rfl, rfl, by decide +kernel, rfl, by decide +kernel, by decide +kernel⟩
theorem sc_is_letter : FnScope ["text"] ["text"] (defScope s_is_letter) := ⟨rfl, rfl, rfl, by decide +kernel, rfl, by decide +kernel, by decide +kernel⟩
theorem sc_are_names : FnScope ["names", "name"] ["names"] (defScope s_are_names) := ⟨rfl, rfl, rfl, by decide +kernel, rfl, by decide +kernel, by decide +kernel⟩
theorem sc_Grammar___init__ : FnScope ["self", "names", "rules", "name", "at", "rule"] ["self", "names", "rules"] (defScope s_Grammar___init__) := ⟨rfl, rfl, rfl, by decide +kernel, rfl, by decide +kernel, by decide +kernel⟩
theorem sc_Grammar_lets_by : FnScope ["self", "rule", "name", "letter", "row", "one"] ["self", "rule"] (defScope s_Grammar_lets_by) := ⟨rfl, rfl, rfl, by decide +kernel, rfl, by decide +kernel, by decide +kernel⟩
theorem sc_Grammar_names : FnScope ["self"] ["self"] (defScope s_Grammar_names) := ⟨rfl, rfl, rfl, by decide +kernel, rfl, by decide +kernel, by decide +kernel⟩
theorem sc_Grammar_has : FnScope ["self", "name"] ["self", "name"] (defScope s_Grammar_has) := ⟨rfl, rfl, rfl, by decide +kernel, rfl, by decide +kernel, by decide +kernel⟩
theorem sc_Grammar_rules_of : FnScope ["self", "name", "letter", "row"] ["self", "name"] (defScope s_Grammar_rules_of) := ⟨rfl, rfl, rfl, by decide +kernel, rfl, by decide +kernel, by decide +kernel⟩
theorem sc_look_at_names : FnScope ["grammar", "row", "name"] ["grammar", "row"] (defScope s_look_at_names) := ⟨rfl, rfl, rfl, by decide +kernel, rfl, by decide +kernel, by decide +kernel⟩
theorem sc_each_once : FnScope ["steps", "found", "step"] ["steps"] (defScope s_each_once) := ⟨rfl, rfl, rfl, by decide +kernel, rfl, by decide +kernel, by decide +kernel⟩
theorem sc_row_steps : FnScope ["grammar", "row", "letter", "more"] ["grammar", "row"] (defScope s_row_steps) := ⟨rfl, rfl, rfl, by decide +kernel, rfl, by decide +kernel, by decide +kernel⟩
theorem sc_bag_steps : FnScope ["grammar", "bag", "found", "at", "name", "rest", "letter", "more"] ["grammar", "bag"] (defScope s_bag_steps) := ⟨rfl, rfl, rfl, by decide +kernel, rfl, by decide +kernel, by decide +kernel⟩
theorem sc_steps_of : FnScope ["grammar", "kind", "one"] ["grammar", "kind", "one"] (defScope s_steps_of) := ⟨rfl, rfl, rfl, by decide +kernel, rfl, by decide +kernel, by decide +kernel⟩
theorem sc_added_up : FnScope ["norms", "row", "some", "name"] ["norms", "row"] (defScope s_added_up) := ⟨rfl, rfl, rfl, by decide +kernel, rfl, by decide +kernel, by decide +kernel⟩
theorem sc_norms : FnScope ["grammar", "found", "again", "name", "letter", "row", "norm"] ["grammar"] (defScope s_norms) := ⟨rfl, rfl, rfl, by decide +kernel, rfl, by decide +kernel, by decide +kernel⟩
theorem sc_lessening : FnScope ["grammar", "known", "name", "rule"] ["grammar", "known", "name"] (defScope s_lessening) := ⟨rfl, rfl, rfl, by decide +kernel, rfl, by decide +kernel, by decide +kernel⟩
theorem sc_weighed : FnScope ["grammar", "kind", "rows", "row", "found", "most"] ["grammar", "kind", "rows"] (defScope s_weighed) := ⟨rfl, rfl, rfl, by decide +kernel, rfl, by decide +kernel, by decide +kernel⟩
theorem sc_put_out : FnScope ["kind", "base", "one", "found", "name"] ["kind", "base", "one"] (defScope s_put_out) := ⟨rfl, rfl, rfl, by decide +kernel, rfl, by decide +kernel, by decide +kernel⟩
theorem sc_outs_of : FnScope ["kind", "base", "steps", "letter", "result"] ["kind", "base", "steps"] (defScope s_outs_of) := ⟨rfl, rfl, rfl, by decide +kernel, rfl, by decide +kernel, by decide +kernel⟩
theorem sc_by_norms : FnScope ["grammar", "known"] ["grammar", "known"] (defScope s_by_norms) := ⟨rfl, rfl, rfl, by decide +kernel, rfl, by decide +kernel, by decide +kernel⟩
theorem sc_base_of_norms : FnScope ["grammar", "known", "names", "name"] ["grammar", "known"] (defScope s_base_of_norms) := ⟨rfl, rfl, rfl, by decide +kernel, rfl, by decide +kernel, by decide +kernel⟩
theorem sc_without : FnScope ["kind", "whole", "part", "rest", "name"] ["kind", "whole", "part"] (defScope s_without) := ⟨rfl, rfl, rfl, by decide +kernel, rfl, by decide +kernel, by decide +kernel⟩
theorem sc_Refining___init__ : FnScope ["self", "grammar", "kind", "known", "old"] ["self", "grammar", "kind", "known", "old"] (defScope s_Refining___init__) := ⟨rfl, rfl, rfl, by decide +kernel, rfl, by decide +kernel, by decide +kernel⟩
theorem sc_Refining_lessened : FnScope ["self", "one", "norm", "steps", "step"] ["self", "one"] (defScope s_Refining_lessened) := ⟨rfl, rfl, rfl, by decide +kernel, rfl, by decide +kernel, by decide +kernel⟩
theorem sc_Refining_candidates : FnScope ["self", "name", "letter", "row", "whole", "found", "first", "by", "more", "rest"] ["self", "name"] (defScope s_Refining_candidates) := ⟨rfl, rfl, rfl, by decide +kernel, rfl, by decide +kernel, by decide +kernel⟩
theorem sc_Refining_outs_by : FnScope ["self", "base", "one", "less", "steps"] ["self", "base", "one", "less"] (defScope s_Refining_outs_by) := ⟨rfl, rfl, rfl, by decide +kernel, rfl, by decide +kernel, by decide +kernel⟩
theorem sc_Refining_passes : FnScope ["self", "name", "making", "base", "less"] ["self", "name", "making"] (defScope s_Refining_passes) := ⟨rfl, rfl, rfl, by decide +kernel, rfl, by decide +kernel, by decide +kernel⟩
theorem sc_Refining_take : FnScope ["self", "name", "making"] ["self", "name"] (defScope s_Refining_take) := ⟨rfl, rfl, rfl, by decide +kernel, rfl, by decide +kernel, by decide +kernel⟩
theorem sc_refined : FnScope ["grammar", "kind", "known", "old", "going", "name"] ["grammar", "kind", "known", "old"] (defScope s_refined) := ⟨rfl, rfl, rfl, by decide +kernel, rfl, by decide +kernel, by decide +kernel⟩
theorem sc_bases_of : FnScope ["grammar", "kind", "known", "found", "then"] ["grammar", "kind", "known"] (defScope s_bases_of) := ⟨rfl, rfl, rfl, by decide +kernel, rfl, by decide +kernel, by decide +kernel⟩
theorem sc_made_of : FnScope ["grammar", "kind", "one", "known"] ["grammar", "kind", "one"] (defScope s_made_of) := ⟨rfl, rfl, rfl, by decide +kernel, rfl, by decide +kernel, by decide +kernel⟩
theorem sc_Made___init__ : FnScope ["self", "grammar", "rows"] ["self", "grammar", "rows"] (defScope s_Made___init__) := ⟨rfl, rfl, rfl, by decide +kernel, rfl, by decide +kernel, by decide +kernel⟩
theorem sc_Made_out : FnScope ["self", "row"] ["self", "row"] (defScope s_Made_out) := ⟨rfl, rfl, rfl, by decide +kernel, rfl, by decide +kernel, by decide +kernel⟩
theorem sc_like_so_far : FnScope ["one", "other", "at"] ["one", "other"] (defScope s_like_so_far) := ⟨rfl, rfl, rfl, by decide +kernel, rfl, by decide +kernel, by decide +kernel⟩
theorem sc_common_begin : FnScope ["grammar", "one", "other", "made", "first"] ["grammar", "one", "other"] (defScope s_common_begin) := ⟨rfl, rfl, rfl, by decide +kernel, rfl, by decide +kernel, by decide +kernel⟩
theorem sc_common_end : FnScope ["grammar", "one", "other", "made", "first", "many"] ["grammar", "one", "other"] (defScope s_common_end) := ⟨rfl, rfl, rfl, by decide +kernel, rfl, by decide +kernel, by decide +kernel⟩
theorem sc__law_cell_at : FnScope ["_law_script", "_law_k"] ["_law_script", "_law_k"] (defScope s__law_cell_at) := ⟨rfl, rfl, rfl, by decide +kernel, rfl, by decide +kernel, by decide +kernel⟩
theorem sc__law_well : FnScope ["_law_cell"] ["_law_cell"] (defScope s__law_well) := ⟨rfl, rfl, rfl, by decide +kernel, rfl, by decide +kernel, by decide +kernel⟩
theorem sc__law_draw : FnScope ["_law_well_here", "_law_many", "_law_found", "_law_base", "_law_number"] ["_law_well_here", "_law_many"] (defScope s__law_draw) := ⟨rfl, rfl, rfl, by decide +kernel, rfl, by decide +kernel, by decide +kernel⟩
theorem sc__law_one : FnScope ["_law_well_here", "_law_some"] ["_law_well_here", "_law_some"] (defScope s__law_one) := ⟨rfl, rfl, rfl, by decide +kernel, rfl, by decide +kernel, by decide +kernel⟩
theorem sc__law_names : FnScope ["_law_well_here", "_law_many", "_law_stem", "_law_first", "_law_k"] ["_law_well_here", "_law_many"] (defScope s__law_names) := ⟨rfl, rfl, rfl, by decide +kernel, rfl, by decide +kernel, by decide +kernel⟩
theorem sc__law_signs : FnScope ["_law_well_here", "_law_many", "_law_first", "_law_k"] ["_law_well_here", "_law_many"] (defScope s__law_signs) := ⟨rfl, rfl, rfl, by decide +kernel, rfl, by decide +kernel, by decide +kernel⟩
theorem sc__law_mixed : FnScope ["_law_well_here", "_law_some", "_law_left", "_law_k"] ["_law_well_here", "_law_some"] (defScope s__law_mixed) := ⟨rfl, rfl, rfl, by decide +kernel, rfl, by decide +kernel, by decide +kernel⟩
theorem sc__law_rules : FnScope ["_law_well_here", "_law_names_here", "_law_signs_here", "_law_plain", "_law_most", "_law_rules_here", "_law_known", "_law_k", "_law_name", "_law_row_here", "_law_j", "_law_one_here", "_law_letter", "_law_rule", "_law_mine", "_law_other"] ["_law_well_here", "_law_names_here", "_law_signs_here", "_law_plain", "_law_most"] (defScope s__law_rules) := ⟨rfl, rfl, rfl, by decide +kernel, rfl, by decide +kernel, by decide +kernel⟩
theorem sc__law_kin : FnScope ["_law_well_here", "_law_rules_here", "_law_known", "_law_names_here", "_law_name", "_law_one_here", "_law_behind", "_law_mine", "_law_other", "_law_letter", "_law_row_here"] ["_law_well_here", "_law_rules_here", "_law_known", "_law_names_here", "_law_name"] (defScope s__law_kin) := ⟨rfl, rfl, rfl, by decide +kernel, rfl, by decide +kernel, by decide +kernel⟩
theorem sc__law_grammar : FnScope ["_law_well_here", "_law_names_here", "_law_signs_here", "_law_many", "_law_rules_here", "_law_known", "_law_k"] ["_law_well_here"] (defScope s__law_grammar) := ⟨rfl, rfl, rfl, by decide +kernel, rfl, by decide +kernel, by decide +kernel⟩
theorem sc__law_row : FnScope ["_law_well_here", "_law_names_here", "_law_known", "_law_most", "_law_row_here", "_law_k", "_law_name", "_law_one_here"] ["_law_well_here", "_law_names_here", "_law_known", "_law_most"] (defScope s__law_row) := ⟨rfl, rfl, rfl, by decide +kernel, rfl, by decide +kernel, by decide +kernel⟩
theorem sc__law_same : FnScope ["_law_one_here", "_law_other", "_law_many", "_law_k"] ["_law_one_here", "_law_other"] (defScope s__law_same) := ⟨rfl, rfl, rfl, by decide +kernel, rfl, by decide +kernel, by decide +kernel⟩
theorem sc_law : FnScope ["_law_script", "_law_cell", "_law_well_here", "_law_grammar_here", "_law_names_here", "_law_known", "_law_some", "_law_one_here", "_law_other", "_law_outs", "_law_due", "_law_k", "_law_row_here"] ["_law_script"] (defScope s_law) := ⟨rfl, rfl, rfl, by decide +kernel, rfl, by decide +kernel, by decide +kernel⟩
end SG
namespace SG
open PySem PySem.Spec PyProof.Rows L2 LamX
section
variable {P : Program} {w : World} {K : PySem.W.Frag} {mg : Str → Option Value} {base : Heap} {A : Ad}
def sp_is_small : Sp := fun vs H Q _ => ∃ x : Str, vs = [.str x] ∧ x.length ≤ 1000000 ∧ ∀ H', Same H H' → Q (.bl (isSmall x)) H'
theorem ok_is_small (T : Txt K mg A) : FnOk P w K mg base CX0 1 A.a_is_small A.d_is_small ["text"] sp_is_small := by
  refine T.F_is_small.ok sc_is_small (fun vs H Q E h => ?_) (fun cdv A0 outer s H vs Q E hr h => ?_)
  · obtain ⟨x, rfl, _⟩ := h
    rfl
  · obtain ⟨x, rfl, hx, q⟩ := h
    refine ⟨_, (pss_one (ps_ret (pe_callB (id := "all") (r := rAll K) (cr_all rfl) (by rfl) T.all (by decide +kernel) (pa_cons (pe_lc (own := [("sign", 1)]) (g := gName 1) (by rfl) sc_is_small.nd (pi_str (pv 0)) (blkOk_by (own := [("sign", 1)]) (N := ["text", "sign"]) (sc := defScope s_is_small) (by decide +kernel)) (fun _ _ _ _ _ => (pg_name (i := 1) sc_is_small.nd rfl (Or.inl rfl))) (fun _ _ _ _ _ => pts_nil) (fun _ _ _ _ _ => (pe_cmpR op_in_sign (pv 1) (pe_glob (v := .str "abcdefghijklmnopqrstuvwxyz") (by rfl) T.c_SMALL.choose_spec ⟨_, rfl⟩) (by rfl)))) pa_nil)))), ?_⟩
    refine ⟨_, rfl, x, rfl, fun D hD => lc_scalS (ys := (x.cps.toList.map fun c => decide (c ∈ abcS.cps.toList)).map V.bl) hD (by rw [List.length_map, List.length_map, Array.length_toList]; rfl) hx (fun _ => rfl) (fun i c y H' Q' h1 h2 _ k => ?_) (fun H' sm hl => ?_)⟩
    · rw [List.map_map] at h2
      have e := map_get h1 h2
      subst e
      exact ⟨_, rfl, c, abcS, rfl, rfl, k H' (Same.refl _)⟩
    · refine ⟨D, x.cps.toList.map fun c => decide (c ∈ abcS.cps.toList), rfl, SqL.of hl, ?_⟩
      have e : (x.cps.toList.map fun c => decide (c ∈ abcS.cps.toList)).all id = isSmall x := by
        unfold isSmall
        rw [List.all_map]
        rfl
      rw [e]
      exact q H' sm
def sp_is_name : Sp := fun vs H Q _ => ∃ x : Str, vs = [.str x] ∧ x.length ≤ 1000000 ∧ ∀ H', Same H H' → Q (.bl (isName x)) H'
theorem ok_is_name (T : Txt K mg A) : FnOk P w K mg base CX0 2 A.a_is_name A.d_is_name ["text"] sp_is_name := by
  have G_is_small : FnOk P w K mg base CX0 1 A.a_is_small A.d_is_small ["text"] sp_is_small := ok_is_small T
  refine T.F_is_name.ok sc_is_name (fun vs H Q E h => ?_) (fun cdv A0 outer s H vs Q E hr h => ?_)
  · obtain ⟨x, rfl, _⟩ := h
    rfl
  · obtain ⟨x, rfl, hx, q⟩ := h
    refine ⟨_, (pss_one (ps_ret (pe_and (pe_chain op_le op_le pe_int (pe_callB (id := "len") call_len_str (by rfl) T.len (by decide +kernel) (pa_cons (pv 0) pa_nil)) pe_int) (pe_and (pe_call G_is_small (hr.mono (by decide)) (by rfl) T.g_is_small T.F_is_small.kp T.b_is_small .nil pass0 (pa_cons (pv 0) pa_nil)) (pe_one (pe_cmpR op_ne (pv 0) pe_str (nomark _))))))), ?_⟩
    have hz : x.length ≤ sizeLine := sl2 hx
    have fin : ∀ b c : Bool, isName x = (b && c && isSmall x && decide (x ≠ ("names" : Str))) → b = false → isName x = false := fun b c e h => by rw [e, h]; rfl
    refine ⟨_, rfl, x, rfl, hz, _, _, rfl, rfl, _, rfl, iteB (fun h1 => ?_) (fun h1 => ?_)⟩
    · have h1' : (1 : Int) ≤ (x.length : Int) := of_decide_eq_true h1
      refine ⟨_, _, rfl, rfl, _, rfl, iteB (fun h2 => ?_) (fun h2 => ?_)⟩
      · have h2' : (x.length : Int) ≤ 8 := of_decide_eq_true h2
        refine ⟨_, rfl, x, rfl, hx, fun H' sm => ⟨_, rfl, iteB (fun h3 => ?_) (fun h3 => ?_)⟩⟩
        · refine ⟨_, rfl, rfl, ?_⟩
          have e : isName x = !decide (V.str x = V.str ("names" : Str)) := by
            unfold isName
            rw [h3, decide_eq_true (show 1 ≤ x.length by omega), decide_eq_true (show x.length ≤ 8 by omega)]
            by_cases e : x = ("names" : Str)
            · simp [e]
            · simp [e]
          rw [← e]
          exact q H' sm
        · have e : isName x = false := by unfold isName; rw [h3]; simp
          rw [← e]
          exact q H' sm
      · have e : isName x = false := by
          have : ¬ x.length ≤ 8 := fun z => of_decide_eq_false h2 (by show ((x.length : Nat) : Int) ≤ 8; omega)
          unfold isName
          rw [decide_eq_false this]
          simp
        rw [← e]
        exact q H (Same.refl _)
    · have e : isName x = false := by
        have : ¬ 1 ≤ x.length := fun z => of_decide_eq_false h1 (by show (1 : Int) ≤ ((x.length : Nat) : Int); omega)
        unfold isName
        rw [decide_eq_false this]
        simp
      refine ⟨_, rfl, iteF ?_⟩
      rw [← e]
      exact q H (Same.refl _)
def sp_is_letter : Sp := fun vs H Q _ => ∃ x : Str, vs = [.str x] ∧ x.length ≤ 1000000 ∧ ∀ H', Same H H' → Q (.bl (isLetter x)) H'
theorem ok_is_letter (T : Txt K mg A) : FnOk P w K mg base CX0 2 A.a_is_letter A.d_is_letter ["text"] sp_is_letter := by
  have G_is_small : FnOk P w K mg base CX0 1 A.a_is_small A.d_is_small ["text"] sp_is_small := ok_is_small T
  refine T.F_is_letter.ok sc_is_letter (fun vs H Q E h => ?_) (fun cdv A0 outer s H vs Q E hr h => ?_)
  · obtain ⟨x, rfl, _⟩ := h
    rfl
  · obtain ⟨x, rfl, hx, q⟩ := h
    refine ⟨_, (pss_one (ps_ret (pe_and (pe_cmpR op_eq (pe_callB (id := "len") call_len_str (by rfl) T.len (by decide +kernel) (pa_cons (pv 0) pa_nil)) pe_int (nomark _)) (pe_one (pe_call G_is_small (hr.mono (by decide)) (by rfl) T.g_is_small T.F_is_small.kp T.b_is_small .nil pass0 (pa_cons (pv 0) pa_nil)))))), ?_⟩
    refine ⟨_, rfl, x, rfl, sl2 hx, rfl, _, rfl, iteB (fun h1 => ?_) (fun h1 => ?_)⟩
    · have h1' : (x.length : Int) = 1 := V.int.inj (of_decide_eq_true h1)
      refine ⟨_, rfl, x, rfl, hx, fun H' sm => ?_⟩
      have e : isLetter x = isSmall x := by
        unfold isLetter
        rw [decide_eq_true (show x.length = 1 by omega)]
        rfl
      rw [← e]
      exact q H' sm
    · have e : isLetter x = false := by
        have : ¬ x.length = 1 := fun z => of_decide_eq_false h1 (by rw [z]; rfl)
        unfold isLetter
        rw [decide_eq_false this]
        rfl
      rw [← e]
      exact q H (Same.refl _)
def sp_are_names (K : PySem.W.Frag) : Sp := fun vs H Q _ => ∃ (a : Addr) (xs : List Str), vs = [.ref a] ∧ SqL K H a (xs.map V.str) ∧ xs.length ≤ 1000 ∧ (∀ x ∈ xs, x.length ≤ 1000000) ∧ ∀ H', Same H H' → Q (.bl (areNames xs)) H'
theorem ok_are_names (T : Txt K mg A) : FnOk P w K mg base CX0 3 A.a_are_names A.d_are_names ["names"] (sp_are_names K) := by
  have G_is_name : FnOk P w K mg base CX0 2 A.a_is_name A.d_is_name ["text"] sp_is_name := ok_is_name T
  refine T.F_are_names.ok sc_are_names (fun vs H Q E h => ?_) (fun cdv A0 outer s H vs Q E hr h => ?_)
  · obtain ⟨x, xs, rfl, _⟩ := h
    rfl
  · obtain ⟨a, xs, rfl, hS, hlen, hx, q⟩ := h
    refine ⟨_, (pss_one (ps_ret (pe_and (pe_chain op_le op_le pe_int (pe_callB (id := "len") (r := Evl.rLenS K) call_len_seq (by rfl) T.len (by decide +kernel) (pa_cons (pv 0) pa_nil)) (pe_glob (v := .int 6) (by rfl) T.c_MOST_NAMES.choose_spec ⟨_, rfl⟩)) (pe_and (pe_cmpR op_eq (pe_lenSetS (by rfl) T.len (by rfl) T.set_ (pv 0)) (pe_callB (id := "len") (r := Evl.rLenS K) call_len_seq (by rfl) T.len (by decide +kernel) (pa_cons (pv 0) pa_nil)) (nomark _)) (pe_one (pe_callB (id := "all") (r := rAll K) (cr_all rfl) (by rfl) T.all (by decide +kernel) (pa_cons (pe_lc (own := [("name", 1)]) (g := gName 1) (by rfl) sc_are_names.nd (pi_list (pv 0)) (blkOk_by (own := [("name", 1)]) (N := ["names", "name"]) (sc := defScope s_are_names) (by decide +kernel)) (fun _ _ _ _ _ => (pg_name (i := 1) sc_are_names.nd rfl (Or.inl rfl))) (fun _ _ _ _ _ => pts_nil) (fun _ _ _ _ _ => (pe_call G_is_name (hr.mono (by decide)) (by rfl) T.g_is_name T.F_is_name.kp T.b_is_name .nil pass0 (pa_cons (pv 1) pa_nil)))) pa_nil))))))), ?_⟩
    have no : ∀ {b : Bool}, areNames xs = b → Q (.bl b) H := fun e => by rw [← e]; exact q H (Same.refl _)
    refine ⟨_, rfl, a, _, rfl, .inl hS, _, _, rfl, rfl, _, rfl, iteB (fun h1 => ?_) (fun h1 => ?_)⟩
    · have h1' : (1 : Int) ≤ ((xs.map V.str).length : Int) := of_decide_eq_true h1
      rw [List.length_map] at h1'
      refine ⟨_, _, rfl, rfl, _, rfl, iteB (fun h2 => ?_) (fun h2 => ?_)⟩
      · have h2' : ((xs.map V.str).length : Int) ≤ 6 := of_decide_eq_true h2
        rw [List.length_map] at h2'
        refine ⟨_, rfl, a, xs, rfl, hS, hlen, _, rfl, a, _, rfl, .inl hS, rfl, _, rfl, iteB (fun h3 => ?_) (fun h3 => ?_)⟩
        · have nd : xs.Nodup := by
            have e := V.int.inj (of_decide_eq_true h3)
            rw [List.length_map] at e
            exact (once_nodup xs).mp (by omega)
          refine ⟨_, rfl, a, rfl, ⟨_, hS⟩, fun D hD => lc_scal (K := K) (ys := (xs.map isName).map V.bl) hS hD (by simp) (by rw [List.length_map]; omega) (fun _ => rfl) (fun i x y H' Q' g1 g2 sm k => ?_) (fun H' sm hl => ?_)⟩
          · obtain ⟨n, hn, rfl⟩ := map_at g1
            rw [List.map_map] at g2
            have e := map_get hn g2
            subst e
            exact ⟨_, rfl, n, rfl, hx n (List.mem_of_getElem? hn), fun H'' e => k H'' e⟩
          · refine ⟨D, xs.map isName, rfl, SqL.of hl, ?_⟩
            have e : (xs.map isName).all id = areNames xs := by
              unfold areNames
              rw [decide_eq_true nd, decide_eq_true (show 1 ≤ xs.length by omega), decide_eq_true (show xs.length ≤ 6 by omega), List.all_map]
              rfl
            rw [e]
            exact q H' sm
        · refine no ?_
          have nd : ¬ xs.Nodup := fun z => of_decide_eq_false h3 (by rw [(once_nodup xs).mpr z, List.length_map])
          unfold areNames
          rw [decide_eq_false nd]
          simp
      · refine no ?_
        have : ¬ xs.length ≤ 6 := fun z => of_decide_eq_false h2 (by show (((xs.map V.str).length : Nat) : Int) ≤ 6; rw [List.length_map]; omega)
        unfold areNames
        rw [decide_eq_false this]
        simp
    · refine ⟨_, rfl, iteF (no ?_)⟩
      have : ¬ 1 ≤ xs.length := fun z => of_decide_eq_false h1 (by show (1 : Int) ≤ (((xs.map V.str).length : Nat) : Int); rw [List.length_map]; omega)
      unfold areNames
      rw [decide_eq_false this]
      simp
end
section
variable {P : Program} {w : World} {K : PySem.W.Frag} {mg : Str → Option Value} {base : Heap} {A : Ad}
/-! ### telling -/
def sp_G_names (C : Addr) : Sp := fun vs H Q _ => ∃ (g : Addr) (names : List Str) (rs : List Rule), vs = [.ref g] ∧ GramAt C H g names rs ∧ ∀ p H', H p = none → Same H H' → H' p = some (.lst (names.map V.str)) → Q (.ref p) H'
theorem ok_Grammar_names (T : Txt K mg A) : FnOk P w K mg base CX0 1 A.a_Grammar_names A.d_Grammar_names ["self"] (sp_G_names A.c_Grammar) := by
  refine T.F_Grammar_names.ok sc_Grammar_names (fun vs H Q E h => ?_) (fun cdv A0 outer s H vs Q E hr h => ?_)
  · obtain ⟨g, _, _, rfl, _⟩ := h
    rfl
  · obtain ⟨g, names, rs, rfl, G, q⟩ := h
    obtain ⟨dx, kn, st, od, ls, h1, h2, h3, h4⟩ := G.ex
    refine ⟨_, (pss_one (ps_ret (pe_callTy (T := "list") (r := Evl.rListS K) call_list_of (by rfl) T.list_ (by decide +kernel) (pa_cons (pe_fld (pv 0) rfl) pa_nil)))), ?_⟩
    exact ⟨_, rfl, g, _, _, _, _, rfl, h1, T.cl_Grammar, T.n_Grammar_known, gfs_known _ _ _, kn, _, rfl, .inl (SqL.of h2), fun l hl => q l _ hl (same_new hl) upd_same⟩
def sp_G_has (C : Addr) : Sp := fun vs H Q _ => ∃ (g : Addr) (names : List Str) (rs : List Rule) (n : Str), vs = [.ref g, .str n] ∧ GramAt C H g names rs ∧ Q (.bl (decide (n ∈ names))) H
theorem ok_Grammar_has (T : Txt K mg A) : FnOk P w K mg base CX0 1 A.a_Grammar_has A.d_Grammar_has ["self", "name"] (sp_G_has A.c_Grammar) := by
  refine T.F_Grammar_has.ok sc_Grammar_has (fun vs H Q E h => ?_) (fun cdv A0 outer s H vs Q E hr h => ?_)
  · obtain ⟨g, _, _, _, rfl, _⟩ := h
    rfl
  · obtain ⟨g, names, rs, n, rfl, G, q⟩ := h
    have hu := hu_of hr
    obtain ⟨dx, kn, st, od, ls, h1, h2, h3, h4⟩ := G.ex
    refine ⟨_, (pss_one (ps_ret (pe_cmp (pc_din hu (pv 1) (pe_fld (pv 0) rfl)) rfl))), ?_⟩
    refine ⟨_, rfl, _, rfl, g, _, _, _, _, rfl, h1, T.cl_Grammar, T.n_Grammar_stored, gfs_stored _ _ _, st, _, rfl, DGet.k (k := Sum.inr n) h3.1, ?_⟩
    rcases h3.look n with ⟨e, f⟩ | ⟨i, l, _, _, e, f, _⟩
    · rw [decide_eq_false f] at q
      rw [e]
      exact q
    · rw [decide_eq_true f] at q
      rw [e]
      exact q
def RowN (H H' : Hp) (D t : Addr) (r : Str × List Str) : Prop := H t = none ∧ t ≠ D ∧ ∃ w, H w = none ∧ w ≠ D ∧ H' t = some (.tup [.str r.1, .ref w]) ∧ H' w = some (.lst (r.2.map V.str))
def TrioN (H H' : Hp) (D me t : Addr) (r : Rule) : Prop := H t = none ∧ t ≠ D ∧ t ≠ me ∧ ∃ w, H w = none ∧ w ≠ D ∧ w ≠ me ∧ H' t = some (.tup [.str r.1, .str r.2.1, .ref w]) ∧ H' w = some (.lst (r.2.2.map V.str))
end
section
variable {P : Program} {w : World} {K : PySem.W.Frag} {mg : Str → Option Value} {base : Heap} {A : Ad}
def sp_G_rules_of (C : Addr) : Sp := fun vs H Q _ => ∃ (g : Addr) (names : List Str) (rs : List Rule) (n : Str), vs = [.ref g, .str n] ∧ GramAt C H g names rs ∧ n ∈ names ∧ (rulesOf rs n).length ≤ 1000 ∧ ∀ p H', NewRows H H' p (rulesOf rs n) → Q (.ref p) H'
theorem ok_Grammar_rules_of (T : Txt K mg A) : FnOk P w K mg base CX0 1 A.a_Grammar_rules_of A.d_Grammar_rules_of ["self", "name"] (sp_G_rules_of A.c_Grammar) := by
  refine T.F_Grammar_rules_of.ok sc_Grammar_rules_of (fun vs H Q E h => ?_) (fun cdv A0 outer s H vs Q E hr h => ?_)
  · obtain ⟨g, _, _, _, rfl, _⟩ := h
    rfl
  · obtain ⟨g, names, rs, n, rfl, G, hn, hlen, q⟩ := h
    have hu := hu_of hr
    obtain ⟨dx, kn, st, od, ls, h1, h2, h3, h4⟩ := G.ex
    refine ⟨_, (pss_one (ps_ret (pe_lc (own := [("letter", 2), ("row", 3)]) (g := gTup K 2 (gCons (gName 2) (gCons (gName 3) gNil))) (by rfl) sc_Grammar_rules_of.nd (pi_list (pe_dget hu (pe_fld (pv 0) rfl) (pv 1) (fun _ _ => rfl))) (blkOk_by (own := [("letter", 2), ("row", 3)]) (N := ["self", "name", "letter", "row"]) (sc := defScope s_Grammar_rules_of) (by decide +kernel)) (fun _ _ _ _ _ => (pg_tup (by rfl) (pgs_cons (pg_name (i := 2) sc_Grammar_rules_of.nd rfl (Or.inl rfl)) (pgs_cons (pg_name (i := 3) sc_Grammar_rules_of.nd rfl (Or.inl rfl)) pgs_nil)))) (fun _ _ _ _ _ => pts_nil) (fun _ _ _ _ _ => (pe_tup (pa_cons (pv 2) (pa_cons (pe_callTy (T := "list") (r := Evl.rListS K) call_list_of (by rfl) T.list_ (by decide +kernel) (pa_cons (pv 3) pa_nil)) pa_nil))))))), ?_⟩
    rcases h3.look n with ⟨_, f⟩ | ⟨i, l, _, _, e, _, ts, ht, hp⟩
    · exact absurd hn f
    have hts : ts.length = (rulesOf rs n).length := paired_len hp
    refine ⟨_, rfl, g, _, _, _, _, rfl, h1, T.cl_Grammar, T.n_Grammar_stored, gfs_stored _ _ _, _, rfl, st, _, rfl, .inl ⟨_, Sum.inr n, .inl h3.1, rfl, e.symm⟩, l, rfl, ⟨_, SqL.of ht⟩, fun D hD => lc_list (K := K) (a := l) (xs := ts.map V.ref)
      (fun i H' => Same H H' ∧ ∃ us : List Addr, H' D = some (.lst (us.map V.ref)) ∧ Paired (RowN H H' D) us ((rulesOf rs n).take i)) ?_ ?_ ?_ ?_⟩
    · exact ⟨same_new hD, [], upd_same, .nil⟩
    · rintro i H' _ ⟨sm, _⟩
      exact SqL.of (sm _ _ ht)
    · rintro i x H' hi ⟨sm, us, hu1, hu2⟩
      obtain ⟨t, hti, rfl⟩ := map_at hi
      obtain ⟨r, hr1, w0, hw1, hw2⟩ := paired_get hp hti
      refine ⟨t, _, rfl, SqT.of (sm _ _ hw1), rfl, _, _, rfl, _, _, rfl, rfl, rfl, tyes (iteT ?_)⟩
      refine ⟨_, rfl, _, rfl, w0, _, rfl, .inl (SqL.of (sm _ _ hw2)), fun w hw => ⟨sl2 (by show 2 ≤ 1000000; decide), fun u hu3 => ?_⟩⟩
      have nwD : w ≠ D := fun z => by rw [z, hu1] at hw; cases hw
      have sm1 := (same_new hw (o := .lst (r.2.map V.str))).trans (same_new hu3 (o := .tup [.str r.1, .ref w]))
      have nuD : u ≠ D := fun z => by rw [z, same_new hw _ _ hu1] at hu3; cases hu3
      have sm2 := sm.trans sm1
      refine ⟨_, sm1 _ _ hu1, by rw [List.length_map, paired_len hu2, List.length_take]; exact sl1 (by omega), same_mut sm2 hD, us ++ [u], by rw [upd_same, List.map_append]; rfl, ?_⟩
      rw [take_snoc hr1]
      have hwU : (upd (upd H' w (.lst (r.2.map V.str))) u (.tup [.str r.1, .ref w])) w = some (.lst (r.2.map V.str)) := by rw [upd_ne (ne_of_none upd_same hu3), upd_same]
      refine paired_app (F := RowN H _ D) ⟨sm.free (Same.free (same_new hw) hu3), nuD, w, sm.free hw, nwD, ?_, ?_⟩ (Paired.mapP hu2 fun t r ⟨a1, a2, w, a3, a4, a5, a6⟩ => ⟨a1, a2, w, a3, a4, ?_, ?_⟩)
      · rw [upd_ne nuD, upd_same]
      · rw [upd_ne nwD]; exact hwU
      · rw [upd_ne a2]; exact sm1 _ _ a5
      · rw [upd_ne a4]; exact sm1 _ _ a6
    · rintro H' ⟨sm, us, hu1, hu2⟩
      rw [List.length_map, hts, List.take_length] at hu2
      exact q D H' ⟨hD, sm, us, hu1, Paired.mapP hu2 fun t r ⟨a1, _, w, a3, _, a5, a6⟩ => ⟨a1, w, a3, a5, a6⟩⟩
end
section
variable {P : Program} {w : World} {K : PySem.W.Frag} {mg : Str → Option Value} {base : Heap} {A : Ad}
/-! ### making -/
theorem dec_any {p : Prop} (i j : Decidable p) : @decide p i = @decide p j := by rw [Subsingleton.elim i j]
def RuleX (H0 H : Hp) (bad : List Addr) (t : Addr) (p : Str × List Str) : Prop := H0 t = none ∧ ∃ w, H0 w = none ∧ w ∉ bad ∧ H t = some (.tup [.str p.1, .ref w]) ∧ H w = some (.lst (p.2.map V.str))
def ListX (H0 H : Hp) (bad : List Addr) (l : Addr) (ps : List (Str × List Str)) : Prop := ∃ ts : List Addr, H l = some (.lst (ts.map V.ref)) ∧ Paired (RuleX H0 H bad) ts ps
structure Bld (C g dx kn st od : Addr) (H H' : Hp) (names : List Str) (ls : List Addr) (rs : List Rule) : Prop where
  base : ∀ b o, H b = some o → b ≠ g → H' b = some o
  ins : H' g = some (.ins C dx (gfs kn st od))
  hkn : H' kn = some (.lst (names.map V.str))
  sd : H' st = some (.dK (zipK names ls))
  hod : H' od = some (.lst ((rs.map (·.1)).map V.str))
  nd : ls.Nodup
  frl : ∀ l ∈ ls, H l = none
  fro : H od = none
  frk : H kn = none
  frs : H st = none
  knb : kn ∉ od :: ls
  odl : od ∉ ls
  prs : Paired (fun n l => ListX H H' (od :: ls) l (rulesOf rs n)) names ls
theorem Bld.stored {C g dx kn st od : Addr} {H H' : Hp} {names : List Str} {ls : List Addr} {rs : List Rule} (b : Bld C g dx kn st od H H' names ls rs) : StoredAt H' st names ls (rulesOf rs) :=
  ⟨b.sd, Paired.mapP b.prs fun _ _ ⟨ts, h1, h2⟩ => ⟨ts, h1, Paired.mapP h2 fun _ _ ⟨_, w, _, _, h3, h4⟩ => ⟨w, h3, h4⟩⟩, b.nd⟩
/-- new things are laid -/
theorem Bld.same {C g dx kn st od : Addr} {H H' H2 : Hp} {names : List Str} {ls : List Addr} {rs : List Rule} (b : Bld C g dx kn st od H H' names ls rs) (e : Same H' H2) : Bld C g dx kn st od H H2 names ls rs where
  base := fun x o h n => e _ _ (b.base x o h n)
  ins := e _ _ b.ins
  hkn := e _ _ b.hkn
  sd := e _ _ b.sd
  hod := e _ _ b.hod
  nd := b.nd
  frl := b.frl
  fro := b.fro
  frk := b.frk
  frs := b.frs
  knb := b.knb
  odl := b.odl
  prs := Paired.mapP b.prs fun _ _ ⟨ts, h1, h2⟩ => ⟨ts, e _ _ h1, Paired.mapP h2 fun _ _ ⟨a0, w, b0, h0, h3, h4⟩ => ⟨a0, w, b0, h0, e _ _ h3, e _ _ h4⟩⟩
theorem paired_all {α β : Type} {F : α → β → Prop} : ∀ {xs : List α} {ys : List β}, xs.length = ys.length → (∀ (i : Nat) x y, xs[i]? = some x → ys[i]? = some y → F x y) → Paired F xs ys
  | [], [], _, _ => .nil
  | x :: xs, y :: ys, h, k => .cons (k 0 x y rfl rfl) (paired_all (by simpa using h) fun i a b h1 h2 => k (i + 1) a b h1 h2)
theorem Bld.fresh {C g dx kn st od : Addr} {H H' : Hp} {names : List Str} {ls : List Addr} {rs : List Rule} (b : Bld C g dx kn st od H H' names ls rs) {x : Addr} (h : H' x = none) : H x = none := by
  cases e : H x with
  | none => rfl
  | some o =>
    by_cases n : x = g
    · rw [n, b.ins] at h; cases h
    · rw [b.base x o e n] at h; cases h
/-- what lies in cells of its own stays, whatever becomes of the others -/
theorem Bld.keep {C g dx kn st od : Addr} {H H' H2 : Hp} {names : List Str} {ls : List Addr} {rs : List Rule} (b : Bld C g dx kn st od H H' names ls rs) (e : ∀ a o, H' a = some o → a = g ∨ H a = none → H2 a = some o) : GramAt C H2 g names rs :=
  ⟨dx, kn, st, od, ls, e _ _ b.ins (.inl rfl), e _ _ b.hkn (.inr b.frk), ⟨e _ _ b.sd (.inr b.frs), paired_all (paired_len b.prs) fun i n l h1 h2 => by
    obtain ⟨ts, g1, g2⟩ := paired_ix b.prs h1 h2
    exact ⟨ts, e _ _ g1 (.inr (b.frl l (List.mem_of_getElem? h2))), Paired.mapP g2 fun t p ⟨a0, w, b0, _, h3, h4⟩ => ⟨w, e _ _ h3 (.inr a0), e _ _ h4 (.inr b0)⟩⟩, b.nd⟩, e _ _ b.hod (.inr b.fro)⟩
/-- a rule's tuple is put behind those of its name, and its name behind the order -/
theorem Bld.put {C g dx kn st od : Addr} {H H' H2 : Hp} {names : List Str} {ls : List Addr} {rs : List Rule} (b : Bld C g dx kn st od H H' names ls rs) {r : Rule} {l t w : Addr} {j : Nat} {ts : List Addr} (nN : names.Nodup) (hj : names[j]? = some r.1) (hl : ls[j]? = some l) (hts : H' l = some (.lst (ts.map V.ref)))
    (ht0 : H t = none) (hw0 : H w = none) (ht : H' t = some (.tup [.str r.2.1, .ref w])) (hw : H' w = some (.lst (r.2.2.map V.str))) (hwb : w ∉ od :: ls) (e2 : H2 = upd (upd H' l (.lst (ts.map V.ref ++ [.ref t]))) od (.lst ((rs.map (·.1)).map V.str ++ [.str r.1]))) : Bld C g dx kn st od H H2 names ls (rs ++ [r]) := by
  have hlm : l ∈ ls := List.mem_of_getElem? hl
  have nlo : l ≠ od := fun z => b.odl (z ▸ hlm)
  have kp : ∀ (x : Addr) (o : HO), H' x = some o → x ≠ l → x ≠ od → H2 x = some o := fun x o h n1 n2 => by rw [e2, upd_ne n2, upd_ne n1]; exact h
  have hl2 : H2 l = some (.lst ((ts ++ [t]).map V.ref)) := by rw [e2, upd_ne nlo, upd_same, List.map_append]; rfl
  have tup_kp : ∀ (x : Addr) (vs : List V), H' x = some (.tup vs) → H2 x = some (.tup vs) := fun x vs h => kp x _ h (ne_of h hts (by intro z; cases z)) (ne_of h b.hod (by intro z; cases z))
  have nb : ∀ {x : Addr}, x ∉ od :: ls → x ≠ l ∧ x ≠ od := fun h => ⟨fun z => h (z ▸ List.mem_cons_of_mem _ hlm), fun z => h (z ▸ List.mem_cons_self)⟩
  have hkn := nb b.knb
  have rk : ∀ (t : Addr) (p : Str × List Str), RuleX H H' (od :: ls) t p → RuleX H H2 (od :: ls) t p := fun t p ⟨a0, w, b0, h0, h1, h2⟩ => ⟨a0, w, b0, h0, tup_kp _ _ h1, kp _ _ h2 (nb h0).1 (nb h0).2⟩
  refine ⟨fun x o h n => kp x o (b.base x o h n) (ne_of_none h (b.frl l hlm)) (ne_of_none h b.fro), kp _ _ b.ins (ne_of b.ins hts (by intro z; cases z)) (ne_of b.ins b.hod (by intro z; cases z)), kp _ _ b.hkn hkn.1 hkn.2, kp _ _ b.sd (ne_of b.sd hts (by intro z; cases z)) (ne_of b.sd b.hod (by intro z; cases z)), by rw [e2, upd_same, List.map_append, List.map_append]; rfl, b.nd, b.frl, b.fro, b.frk, b.frs, b.knb, b.odl, ?_⟩
  refine paired_all (paired_len b.prs) fun i n l' h1 h2 => ?_
  obtain ⟨ts', g1, g2⟩ := paired_ix b.prs h1 h2
  rw [rulesOf_snoc]
  by_cases e : i = j
  · subst e
    rw [hj] at h1
    rw [hl] at h2
    have en := Option.some.inj h1
    have el := Option.some.inj h2
    subst en el
    rw [if_pos rfl]
    rw [hts] at g1
    have ets : ts' = ts := by
      have := HO.lst.inj (Option.some.inj g1)
      have inj : ∀ {a b : List Addr}, a.map V.ref = b.map V.ref → a = b := fun {a b} h => by
        refine List.map_inj_right (fun x y q => V.ref.inj q) |>.mp h
      exact (inj this).symm
    subst ets
    exact ⟨ts' ++ [t], hl2, paired_app (F := RuleX H H2 (od :: ls)) ⟨ht0, w, hw0, hwb, tup_kp _ _ ht, kp _ _ hw (nb hwb).1 (nb hwb).2⟩ (Paired.mapP g2 fun t p h => rk t p h)⟩
  · have ne1 : ¬ r.1 = n := fun z => e (nd_ix nN h1 (z ▸ hj))
    have ne2 : l' ≠ l := fun z => e (nd_ix b.nd h2 (z ▸ hl))
    rw [if_neg ne1]
    exact ⟨ts', kp _ _ g1 ne2 (fun z => b.odl (z ▸ List.mem_of_getElem? h2)), Paired.mapP g2 fun t p h => rk t p h⟩
def sp_lets_by (C : Addr) : Sp := fun vs H Q _ => ∃ (g t dx kn st od : Addr) (ls : List Addr) (names : List Str) (rs : List Rule) (r : Rule), vs = [.ref g, .ref t] ∧ H g = some (.ins C dx (gfs kn st od)) ∧ StoredAt H st names ls (rulesOf rs) ∧ TrioAt H t r ∧ r.2.1.length ≤ 1000000 ∧ r.2.2.length ≤ 1000 ∧ (rulesOf rs r.1).length ≤ 1000 ∧
  ∀ H', Same H H' → Q (.bl (letsBy names rs r)) H'
theorem ok_Grammar_lets_by (T : Txt K mg A) : FnOk P w K mg base CX0 3 A.a_Grammar_lets_by A.d_Grammar_lets_by ["self", "rule"] (sp_lets_by A.c_Grammar) := by
  have G_is_letter : FnOk P w K mg base CX0 2 A.a_is_letter A.d_is_letter ["text"] sp_is_letter := ok_is_letter T
  refine T.F_Grammar_lets_by.ok sc_Grammar_lets_by (fun vs H Q E h => ?_) (fun cdv A0 outer s H vs Q E hr h => ?_)
  · obtain ⟨g, t, _, _, _, _, _, _, _, _, rfl, _⟩ := h
    rfl
  · obtain ⟨g, t, dx, kn, st, od, ls, names, rs, ⟨n, c, row⟩, rfl, hg, hst, ⟨w0, ht, hw0⟩, hc, hrow, hrl, q⟩ := h
    dsimp only at ht hw0 hc hrow hrl
    have hu := hu_of hr
    have hu64 := hu64_of hr
    refine ⟨_, (pss_cons (ps_asg (pv 1) (pg_tup (by rfl) (pgs_cons (pg_name (i := 2) sc_Grammar_lets_by.nd rfl (Or.inl rfl)) (pgs_cons (pg_name (i := 3) sc_Grammar_lets_by.nd rfl (Or.inl rfl)) (pgs_cons (pg_name (i := 4) sc_Grammar_lets_by.nd rfl (Or.inl rfl)) pgs_nil)))))
 (pss_cons (ps_if (PW.pt (pw_or (pt_cmp (pc_dnotin hu (pv 2) (pe_fld (pv 0) rfl))) (pw_or (pt_not (pt_val (pe_call G_is_letter (hr.mono (by decide)) (by rfl) T.g_is_letter T.F_is_letter.kp T.b_is_letter .nil pass0 (pa_cons (pv 3) pa_nil)))) (pw_or1 (pt_cmpR op_gt (pe_callB (id := "len") (r := Evl.rLenS K) call_len_seq (by rfl) T.len (by decide +kernel) (pa_cons (pv 4) pa_nil)) (pe_glob (v := .int 3) (by rfl) T.c_MOST_ROW.choose_spec ⟨_, rfl⟩) (nomark _)))))) (pss_one (ps_ret pe_bl)) pss_nil)
 (pss_cons (ps_if (pt_not (pt_val (pe_callB (id := "all") (r := rAll K) (cr_all rfl) (by rfl) T.all (by decide +kernel) (pa_cons (pe_lc (own := [("one", 5)]) (g := gName 5) (by rfl) sc_Grammar_lets_by.nd (pi_list (pv 4)) (blkOk_by (own := [("one", 5)]) (N := ["self", "rule", "name", "letter", "row", "one"]) (sc := defScope s_Grammar_lets_by) (by decide +kernel)) (fun _ _ _ _ _ => (pg_name (i := 5) sc_Grammar_lets_by.nd rfl (Or.inl rfl))) (fun _ _ _ _ _ => pts_nil) (fun _ _ _ _ _ => (pe_cmp (pc_din hu (pv 5) (show PE _ _ (tFld K _ _) from (pe_fld (pv 0) rfl))) rfl))) pa_nil)))) (pss_one (ps_ret pe_bl)) pss_nil)
 (pss_one (ps_ret (pe_and (pe_cmpR op_lt (pe_callB (id := "len") (r := Evl.rLenS K) call_len_seq (by rfl) T.len (by decide +kernel) (pa_cons (pe_dget hu (pe_fld (pv 0) rfl) (pv 2) (fun _ _ => rfl)) pa_nil)) (pe_glob (v := .int 4) (by rfl) T.c_MOST_RULES.choose_spec ⟨_, rfl⟩) (nomark _)) (pe_one (pe_cmpR (r := rNotInP K) (op_notInP hu64) (pe_tup (pa_cons (pv 3) (pa_cons (pe_callTy (T := "list") (r := Evl.rListS K) call_list_of (by rfl) T.list_ (by decide +kernel) (pa_cons (pv 4) pa_nil)) pa_nil))) (pe_dget hu (pe_fld (pv 0) rfl) (pv 2) (fun _ _ => rfl)) (by rfl))))))))), ?_⟩
    have no : ∀ {H' : Hp}, Same H H' → letsBy names rs (n, c, row) = false → Q (.bl false) H' := fun sm e => by rw [← e]; exact q _ sm
    refine ⟨_, rfl, t, _, rfl, SqT.of ht, rfl, _, _, rfl, _, _, rfl, _, _, rfl, rfl, ?_⟩
    -- name not in self.stored
    refine ⟨_, rfl, _, rfl, g, _, _, _, _, rfl, hg, T.cl_Grammar, T.n_Grammar_stored, gfs_stored _ _ _, st, _, rfl, DGet.k (k := Sum.inr n) hst.1, _, rfl, ?_⟩
    rcases hst.look n with ⟨e, f⟩ | ⟨j, l, hj, hl, e, f, hL⟩
    · rw [e]
      refine iteT (no (Same.refl _) ?_)
      unfold letsBy
      rw [decide_eq_false f]
      rfl
    rw [e]
    refine iteF ?_
    -- not is_letter(letter)
    refine ⟨_, rfl, c, rfl, hc, fun H1 sm1 => ⟨_, rfl, iteB (fun h2 => ?_) (fun h2 => ?_)⟩⟩
    · refine no sm1 ?_
      have : isLetter c = false := by simpa using h2
      unfold letsBy
      simp [this]
    have hlet : isLetter c = true := by simpa using h2
    -- len(row) > MOST_ROW
    refine ⟨_, rfl, w0, _, rfl, .inl (SqL.of (sm1 _ _ hw0)), _, _, rfl, rfl, _, rfl, iteB (fun h3 => ?_) (fun h3 => ?_)⟩
    · refine no sm1 ?_
      have h3' : (3 : Int) < ((row.map V.str).length : Nat) := of_decide_eq_true h3
      rw [List.length_map] at h3'
      have : ¬ row.length ≤ 3 := by omega
      unfold letsBy
      simp [this]
    have h3' : ¬ (3 : Int) < ((row.map V.str).length : Nat) := of_decide_eq_false h3
    rw [List.length_map] at h3'
    have hrl3 : row.length ≤ 3 := by omega
    -- all([one in self.stored for one in row])
    refine ⟨_, rfl, w0, rfl, ⟨_, SqL.of (sm1 _ _ hw0)⟩, fun D hD => lc_scal (K := K) (ys := (row.map fun x => decide (x ∈ names)).map V.bl) (SqL.of (sm1 _ _ hw0)) hD (by simp) (by rw [List.length_map]; omega) (fun _ => rfl) (fun i x y H' Q' g1 g2 sm k => ?_) (fun H2 sm2 hl2 => ?_)⟩
    · obtain ⟨x, hx, rfl⟩ := map_at g1
      rw [List.map_map] at g2
      have ey := map_get hx g2
      subst ey
      have smx := sm1.trans sm
      refine ⟨_, rfl, _, rfl, g, _, _, _, _, rfl, smx _ _ hg, T.cl_Grammar, T.n_Grammar_stored, gfs_stored _ _ _, st, _, rfl, DGet.k (k := Sum.inr x) (smx _ _ hst.1), ?_⟩
      have fin := k H' (Same.refl _)
      rcases hst.look x with ⟨e, f⟩ | ⟨_, _, _, _, e, f, _⟩
      · rw [e]
        show Q' (V.bl false) H'
        have : (V.bl ∘ fun x => decide (x ∈ names)) x = V.bl false := by show V.bl (decide (x ∈ names)) = _; rw [decide_eq_false f]
        rw [this] at fin
        exact fin
      · rw [e]
        show Q' (V.bl true) H'
        have : (V.bl ∘ fun x => decide (x ∈ names)) x = V.bl true := by show V.bl (decide (x ∈ names)) = _; rw [decide_eq_true f]
        rw [this] at fin
        exact fin
    have smx := sm1.trans sm2
    refine ⟨D, _, rfl, SqL.of hl2, _, rfl, iteB (fun h4 => ?_) (fun h4 => ?_)⟩
    · refine no smx ?_
      have : (row.all fun x => decide (x ∈ names)) = false := by rw [List.all_map] at h4; simpa using h4
      unfold letsBy
      rw [this]
      simp
    have hall : (row.all fun x => decide (x ∈ names)) = true := by rw [List.all_map] at h4; simpa using h4
    -- the rest
    obtain ⟨ts, ht1, ht2⟩ := hL
    have htl : ts.length = (rulesOf rs n).length := paired_len ht2
    refine ⟨_, rfl, g, _, _, _, _, rfl, smx _ _ hg, T.cl_Grammar, T.n_Grammar_stored, gfs_stored _ _ _, _, rfl, st, _, rfl, .inl ⟨_, Sum.inr n, .inl (smx _ _ hst.1), rfl, e.symm⟩, l, _, rfl, .inl (SqL.of (smx _ _ ht1)), _, _, rfl, rfl, _, rfl, iteB (fun h5 => ?_) (fun h5 => ?_)⟩
    · have h5' : ((ts.map V.ref).length : Int) < 4 := of_decide_eq_true h5
      rw [List.length_map, htl] at h5'
      refine ⟨_, rfl, _, rfl, w0, _, rfl, .inl (SqL.of (smx _ _ hw0)), fun w hw => ⟨sl2 (by show 2 ≤ 1000000; decide), fun u hu3 => ?_⟩⟩
      have sm3 := (same_new hw (o := .lst (row.map V.str))).trans (same_new hu3 (o := .tup [.str c, .ref w]))
      have smy := smx.trans sm3
      have hwU : (upd (upd H2 w (.lst (row.map V.str))) u (.tup [.str c, .ref w])) w = some (.lst (row.map V.str)) := by rw [upd_ne (ne_of_none upd_same hu3), upd_same]
      refine ⟨_, rfl, g, _, _, _, _, rfl, smy _ _ hg, T.cl_Grammar, T.n_Grammar_stored, gfs_stored _ _ _, _, rfl, st, _, rfl, .inl ⟨_, Sum.inr n, .inl (smy _ _ hst.1), rfl, e.symm⟩, ?_⟩
      refine ⟨eRow (c, row), (rulesOf rs n).map eRow, dp_row ⟨w, upd_same, hwU⟩, .inl (dp_rows (ListAt.same smy ⟨ts, ht1, ht2⟩)), Nat.le_trans (dep_Row _) (by decide), ?_⟩
      rw [any_enc enc_Row]
      have e9 : letsBy names rs (n, c, row) = !decide ((c, row) ∈ rulesOf rs n) := by
        unfold letsBy
        rw [hall]
        simp [f, hlet, hrl3, show (rulesOf rs n).length < 4 by omega]
      have z := q _ smy
      rw [e9] at z
      exact Eq.mp (congrArg (fun b => Q (V.bl (!b)) _) (dec_any _ _)) z
    · refine no smx ?_
      have h5' : ¬ ((ts.map V.ref).length : Int) < 4 := of_decide_eq_false h5
      rw [List.length_map, htl] at h5'
      have : ¬ (rulesOf rs n).length < 4 := by omega
      unfold letsBy
      rw [decide_eq_false this]
      simp
end
section
variable {P : Program} {w : World} {K : PySem.W.Frag} {mg : Str → Option Value} {base : Heap} {A : Ad}
theorem rulesOf_len (rs : List Rule) (n : Str) : (rulesOf rs n).length ≤ rs.length := by
  unfold rulesOf
  rw [List.length_map]
  exact List.length_filter_le _ _
theorem putK_fresh {names : List Str} {ls : List Addr} {n : Str} {l : Addr} (hl : names.length = ls.length) (h : n ∉ names) : putK (zipK names ls) (Sum.inr n : Key) (V.ref l) = zipK (names ++ [n]) (ls ++ [l]) := by
  have e : valV (zipK names ls) (Sum.inr n : Key) = none := by
    rcases zipK_val hl n with ⟨h1, _⟩ | ⟨_, _, _, _, _, h2⟩
    · exact h1
    · exact absurd h2 h
  rw [putK_new _ e]
  unfold zipK
  rw [List.zipWith_append hl]
  rfl
def sp_G_init (K : PySem.W.Frag) (C : Addr) : Sp := fun vs H Q _ => ∃ (g dx na ru : Addr) (names : List Str) (rs : List Rule), vs = [.ref g, .ref na, .ref ru] ∧ H g = some (.ins C dx []) ∧ H na = some (.lst (names.map V.str)) ∧ areNames names = true ∧ (∀ x ∈ names, x.length ≤ 1000000) ∧
  TriosAt H ru rs ∧ rulesOk names rs ∧ rs.length ≤ 100 ∧ (∀ r ∈ rs, r.2.1.length ≤ 1000000 ∧ r.2.2.length ≤ 1000) ∧ ∀ H', (∀ b o, H b = some o → b ≠ g → H' b = some o) → (∃ dx kn st od ls, Bld C g dx kn st od H H' names ls rs) → Q .non H'
theorem ok_Grammar___init__ (T : Txt K mg A) : FnOk P w K mg base CX0 4 A.a_Grammar___init__ A.d_Grammar___init__ ["self", "names", "rules"] (sp_G_init K A.c_Grammar) := by
  have G_are_names : FnOk P w K mg base CX0 3 A.a_are_names A.d_are_names ["names"] (sp_are_names K) := ok_are_names T
  have G_Grammar_lets_by : FnOk P w K mg base CX0 3 A.a_Grammar_lets_by A.d_Grammar_lets_by ["self", "rule"] (sp_lets_by A.c_Grammar) := ok_Grammar_lets_by T
  refine T.F_Grammar___init__.ok sc_Grammar___init__ (fun vs H Q E h => ?_) (fun cdv A0 outer s H vs Q E hr h => ?_)
  · obtain ⟨g, _, _, _, _, _, rfl, _⟩ := h
    rfl
  · obtain ⟨g, dx, na, ru, names, rs, rfl, hg, hna, hok, hnl, hru, hrs, hrl, hrb, q⟩ := h
    have hu := hu_of hr
    have hok' := hok
    unfold areNames at hok'
    simp only [Bool.and_eq_true, decide_eq_true_eq] at hok'
    obtain ⟨⟨⟨hn1, hn6⟩, hnd⟩, _⟩ := hok'
    refine ⟨_, (pss_cons (ps_if (pt_not (pt_val (pe_call G_are_names (hr.mono (by decide)) (by rfl) T.g_are_names T.F_are_names.kp T.b_are_names .nil pass0 (pa_cons (pv 1) pa_nil)))) (pss_one ps_never) pss_nil)
 (pss_cons (ps_fld (pv 0) (pe_callTy (T := "list") (r := Evl.rListS K) call_list_of (by rfl) T.list_ (by decide +kernel) (pa_cons (pv 1) pa_nil)) rfl)
 (pss_cons (ps_fld (pv 0) pe_dnewK rfl)
 (pss_cons (ps_fld (pv 0) (pe_lst pa_nil) rfl)
 (pss_cons (ps_for PassesOwn.never rfl (pi_list (pv 1)) (pg_name (i := 3) sc_Grammar___init__.nd rfl (Or.inl rfl))
 (pss_one (ps_dput hu (pe_fld (pv 0) rfl) (pv 3) (pe_lst pa_nil) rfl)))
 (pss_one (ps_for PassesOwn.never rfl (pi_enum (by rfl) T.enumerate (pa_cons (pv 2) pa_nil)) (pg_tup (by rfl) (pgs_cons (pg_name (i := 4) sc_Grammar___init__.nd rfl (Or.inl rfl)) (pgs_cons (pg_name (i := 5) sc_Grammar___init__.nd rfl (Or.inl rfl)) pgs_nil)))
 (pss_cons (ps_if (pt_not (pt_val (pe_meth (pv 0) T.cl_Grammar T.m_Grammar_lets_by G_Grammar_lets_by (hr.mono (by decide)) T.b_Grammar_lets_by .nil pass0 (pa_cons (pv 5) pa_nil)))) (pss_one ps_never) pss_nil)
 (pss_cons (ps_expr (pe_bm PySem.F.plainAttrs_list PySem.F.slot_list_append PySem.F.type_list_append mt_append (pe_dget hu (pe_fld (pv 0) rfl) (pe_ix (r := rIxT K) ix_tup (pv 5) pe_int (fun _ _ => rfl)) (fun _ _ => rfl)) (pa_cons (pe_tup (pa_cons (pe_ix (r := rIxT K) ix_tup (pv 5) pe_int (fun _ _ => rfl)) (pa_cons (pe_callTy (T := "list") (r := Evl.rListS K) call_list_of (by rfl) T.list_ (by decide +kernel) (pa_cons (pe_ix (r := rIxT K) ix_tup (pv 5) pe_int (fun _ _ => rfl)) pa_nil)) pa_nil))) pa_nil)))
 (pss_one (ps_expr (pe_bm PySem.F.plainAttrs_list PySem.F.slot_list_append PySem.F.type_list_append mt_append (pe_fld (pv 0) rfl) (pa_cons (pe_ix (r := rIxT K) ix_tup (pv 5) pe_int (fun _ _ => rfl)) pa_nil))))))))))))), ?_⟩
    refine ⟨_, rfl, na, names, rfl, SqL.of hna, by omega, hnl, fun H1 sm1 => ⟨_, rfl, iteNE hok ?_⟩⟩
    -- self.known = list(names)
    refine ⟨_, rfl, na, _, rfl, .inl (SqL.of (sm1 _ _ hna)), fun kn hkn => ?_⟩
    have ngk : g ≠ kn := ne_of_none (sm1 _ _ hg) hkn
    refine ⟨_, rfl, g, A.c_Grammar, dx, [], rfl, same_new hkn _ _ (sm1 _ _ hg), T.cl_Grammar, T.n_Grammar_known, by show 0 < 1000; decide, ?_⟩
    -- self.stored = {}
    intro st hst
    have ngs : g ≠ st := fun z => by rw [z, upd_same] at hst; cases hst
    refine ⟨_, rfl, g, A.c_Grammar, dx, _, rfl, same_new hst _ _ upd_same, T.cl_Grammar, T.n_Grammar_stored, by show 1 < 1000; decide, ?_⟩
    -- self.order = []
    refine ⟨Nat.zero_le _, fun od hod => ?_⟩
    have ngo : g ≠ od := fun z => by rw [z, upd_same] at hod; cases hod
    refine ⟨_, rfl, g, A.c_Grammar, dx, _, rfl, same_new hod _ _ upd_same, T.cl_Grammar, T.n_Grammar_order, ?_, ?_⟩
    · have h1 := length_putF "stored" (V.ref st) (putF "known" (V.ref kn) ([] : List (Str × V)))
      have h2 := length_putF "known" (V.ref kn) ([] : List (Str × V))
      rw [List.length_nil] at h2
      omega
    have nks : st ≠ kn := fun z => by
      rw [z, upd_ne ngk.symm, upd_same] at hst
      cases hst
    have nos : od ≠ st := fun z => by
      rw [z, upd_ne ngs.symm, upd_same] at hod
      cases hod
    have nok : od ≠ kn := fun z => by
      rw [z, upd_ne ngk.symm, upd_ne nks.symm, upd_ne ngk.symm, upd_same] at hod
      cases hod
    generalize hH4 : upd (upd (upd (upd (upd (upd H1 kn (.lst (names.map V.str))) g (.ins A.c_Grammar dx (putF "known" (.ref kn) []))) st (.dK [])) g (.ins A.c_Grammar dx (putF "stored" (.ref st) (putF "known" (.ref kn) [])))) od (.lst [])) g (.ins A.c_Grammar dx (putF "order" (.ref od) (putF "stored" (.ref st) (putF "known" (.ref kn) [])))) = H4
    have g4 : H4 g = some (.ins A.c_Grammar dx (gfs kn st od)) := by rw [← hH4]; exact upd_same
    have k4 : H4 kn = some (.lst (names.map V.str)) := by rw [← hH4, upd_ne ngk.symm, upd_ne nok.symm, upd_ne ngk.symm, upd_ne nks.symm, upd_ne ngk.symm, upd_same]
    have s4 : H4 st = some (.dK []) := by rw [← hH4, upd_ne ngs.symm, upd_ne nos.symm, upd_ne ngs.symm, upd_same]
    have o4 : H4 od = some (.lst []) := by rw [← hH4, upd_ne ngo.symm, upd_same]
    have fk : H kn = none := sm1.free hkn
    have fs : H st = none := by
      rw [upd_ne ngs.symm, upd_ne nks] at hst
      exact sm1.free hst
    have fk : H kn = none := sm1.free hkn
    have fs : H st = none := by
      cases e : H st with
      | none => rfl
      | some o =>
        have e1 := sm1 _ _ e
        rw [upd_ne ngs.symm, upd_ne nks, e1] at hst
        cases hst
    have fo : H od = none := by
      rw [upd_ne ngo.symm, upd_ne nos, upd_ne ngo.symm, upd_ne nok] at hod
      exact sm1.free hod
    have base4 : ∀ b o, H b = some o → b ≠ g → H4 b = some o := fun b o h n => by
      rw [← hH4, upd_ne n, upd_ne (ne_of_none h fo), upd_ne n, upd_ne (ne_of_none h fs), upd_ne n, upd_ne (ne_of_none h fk)]
      exact sm1 _ _ h
    clear hH4 hst hod hkn
    have nna : na ≠ g := ne_of hna hg (by intro z; cases z)
    -- for name in names: self.stored[name] = []
    refine ⟨_, rfl, na, rfl, ⟨_, SqL.of (base4 _ _ hna nna)⟩, for_list (K := K) (a := na) (xs := names.map V.str) (fun i σ' H' => ∃ (x3 : Option V) (ls : List Addr), σ' = [some (.ref g), some (.ref na), some (.ref ru), x3, none, none] ∧
        (∀ b o, H b = some o → b ≠ g → H' b = some o) ∧ H' g = some (.ins A.c_Grammar dx (gfs kn st od)) ∧ H' kn = some (.lst (names.map V.str)) ∧ H' st = some (.dK (zipK (names.take i) ls)) ∧ H' od = some (.lst []) ∧ ls.Nodup ∧ (∀ l ∈ ls, H l = none) ∧ kn ∉ ls ∧ od ∉ ls ∧ ls.length = i ∧ ∀ l ∈ ls, H' l = some (.lst [])) ?_ ?_ ?_ ?_⟩
    · exact ⟨none, [], rfl, base4, g4, k4, s4, o4, by simp, by simp, by simp, by simp, rfl, by simp⟩
    · rintro i σ' H' _ ⟨_, _, rfl, b5, _⟩
      exact SqL.of (b5 _ _ hna nna)
    · rintro i x σ' H5 hi ⟨x3, ls, rfl, b5, g5, k5, s5, o5, nd5, fr5, nk5, no5, hl5, em5⟩
      obtain ⟨n, hn, rfl⟩ := map_at hi
      have hil := (List.getElem?_eq_some_iff.mp hn).1
      refine ⟨Nat.zero_le _, fun l hl => ?_⟩
      have sml := same_new hl (o := .lst [])
      have hst6 := sml _ _ s5
      have hnl6 : l ∉ ls := fun z => by rw [em5 l z] at hl; cases hl
      refine ⟨_, rfl, g, _, _, _, _, rfl, sml _ _ g5, T.cl_Grammar, T.n_Grammar_stored, gfs_stored _ _ _, _, rfl, st, _, rfl, DPut.k (k := Sum.inr n) hst6 ?_, ?_⟩
      · have : (zipK (names.take i) ls).length ≤ 6 := by
          unfold zipK
          rw [List.length_zipWith, List.length_take]
          omega
        exact sl1 (by omega)
      have hnn : n ∉ names.take i := fun z => by
        obtain ⟨j, hj⟩ := List.mem_iff_getElem?.mp z
        rw [List.getElem?_take] at hj
        by_cases hji : j < i
        · rw [if_pos hji] at hj
          have := nd_ix hnd hj hn
          omega
        · rw [if_neg hji] at hj
          cases hj
      have kp : ∀ (x : Addr) (o : HO), H5 x = some o → o ≠ .dK (zipK (names.take i) ls) → (upd (upd H5 l (.lst [])) st (.dK (putK (zipK (names.take i) ls) (Sum.inr n) (.ref l)))) x = some o := fun x o h n => by
        rw [upd_ne (ne_of h s5 n)]
        exact sml _ _ h
      have nls : l ≠ st := ne_of upd_same hst6 (by intro z; cases z)
      refine ⟨_, ls ++ [l], rfl, fun b o h n2 => ?_, kp _ _ g5 (by intro z; cases z), kp _ _ k5 (by intro z; cases z), ?_, kp _ _ o5 (by intro z; cases z), ?_, ?_, ?_, ?_, by simp [hl5], ?_⟩
      · rw [upd_ne (ne_of_none h fs)]
        exact sml _ _ (b5 b o h n2)
      · rw [upd_same, putK_fresh (by rw [List.length_take]; omega) hnn, take_snoc hn]
      · rw [List.nodup_append]
        refine ⟨nd5, by simp, fun x hx y hy z => hnl6 ?_⟩
        rw [List.mem_singleton.mp hy] at z
        exact z ▸ hx
      · intro y hy
        rcases List.mem_append.mp hy with hy | hy
        · exact fr5 y hy
        · rw [List.mem_singleton.mp hy]
          cases e : H l with
          | none => rfl
          | some o =>
            by_cases hlg : l = g
            · rw [hlg, g5] at hl; cases hl
            · rw [b5 l o e hlg] at hl; cases hl
      · rw [List.mem_append, not_or]
        exact ⟨nk5, fun z => by rw [List.mem_singleton.mp z] at k5; rw [k5] at hl; cases hl⟩
      · rw [List.mem_append, not_or]
        exact ⟨no5, fun z => by rw [List.mem_singleton.mp z] at o5; rw [o5] at hl; cases hl⟩
      · intro y hy
        rcases List.mem_append.mp hy with hy | hy
        · exact kp _ _ (em5 y hy) (by intro z; cases z)
        · rw [List.mem_singleton.mp hy, upd_ne nls, upd_same]
    rintro σ' H5 ⟨x3, ls, rfl, b5, g5, k5, s5, o5, nd5, fr5, nk5, no5, hl5, em5⟩
    rw [List.length_map, List.take_length] at s5
    rw [List.length_map] at hl5
    have bld : Bld A.c_Grammar g dx kn st od H H5 names ls [] := by
      refine ⟨b5, g5, k5, s5, o5, nd5, fr5, fo, fk, fs, ?_, no5, ?_⟩
      · rw [List.mem_cons, not_or]
        exact ⟨nok.symm, nk5⟩
      · refine paired_all (by omega) fun i n l h1 h2 => ⟨[], em5 l (List.mem_of_getElem? h2), ?_⟩
        exact .nil
    clear b5 g5 k5 s5 o5 nd5 fr5 nk5 no5 em5
    -- for at, rule in enumerate(rules)
    obtain ⟨ts, hts, htr⟩ := hru
    have ntu : ru ≠ g := ne_of hts hg (by intro z; cases z)
    have htl : ts.length = rs.length := paired_len htr
    refine ⟨_, rfl, ru, _, rfl, SqL.of (bld.base _ _ hts ntu), for_it (walk_enum (a := ru) (xs := ts.map V.ref)) (fun i σ' H' => ∃ x3 x4 x5 : Option V, σ' = [some (.ref g), some (.ref na), some (.ref ru), x3, x4, x5] ∧ Bld A.c_Grammar g dx kn st od H H' names ls (rs.take i)) ?_ ?_ ?_ ?_⟩
    · exact ⟨_, _, _, rfl, bld⟩
    · rintro i σ' H' _ ⟨_, _, _, rfl, b⟩
      exact SqL.of (b.base _ _ hts ntu)
    · rintro i x σ' H6 H7 hi ⟨x3, x4, x5, rfl, b⟩ ⟨T0, y1, y2, rfl, hT, rfl, e1, e2⟩
      have e1 := Option.some.inj e1
      subst e1
      obtain ⟨t, hti, rfl⟩ := map_at e2
      obtain ⟨r, hr1, w0, hw1, hw2⟩ := paired_get htr hti
      have b7 : Bld A.c_Grammar g dx kn st od H (upd H6 T0 (.tup [.int i, .ref t])) names ls (rs.take i) := b.same (same_new hT)
      refine ⟨T0, _, rfl, SqT.of upd_same, rfl, _, _, rfl, _, _, rfl, rfl, ?_⟩
      have ht7 : (upd H6 T0 (.tup [.int i, .ref t])) t = some (.tup [.str r.1, .str r.2.1, .ref w0]) := b7.base _ _ hw1 (ne_of hw1 hg (by intro z; cases z))
      have hw7 : (upd H6 T0 (.tup [.int i, .ref t])) w0 = some (.lst (r.2.2.map V.str)) := b7.base _ _ hw2 (ne_of hw2 hg (by intro z; cases z))
      generalize (upd H6 T0 (.tup [.int i, .ref t])) = H8 at b7 ht7 hw7 ⊢
      have hrm := List.mem_of_getElem? hr1
      have hlets := hrs i r hr1
      have hin : r.1 ∈ names := by
        unfold letsBy at hlets
        simp only [Bool.and_eq_true, decide_eq_true_eq] at hlets
        exact hlets.1.1.1.1.1
      have hrt : (rulesOf (rs.take i) r.1).length ≤ 1000 := by
        have h1 := rulesOf_len (rs.take i) r.1
        rw [List.length_take] at h1
        omega
      refine ⟨_, rfl, g, _, _, rfl, b7.ins, gfs_no _ _ _ (by decide +kernel) (by decide +kernel) (by decide +kernel), _, rfl, g, t, dx, kn, st, od, ls, names, rs.take i, r, rfl, b7.ins, b7.stored, ⟨w0, ht7, hw7⟩, (hrb r hrm).1, (hrb r hrm).2, hrt, fun H9 sm9 => ⟨_, rfl, iteNE hlets ?_⟩⟩
      have b9 := b7.same sm9
      rcases b9.stored.look r.1 with ⟨_, f⟩ | ⟨j, l, hj, hl, el, _, us, hus, hup⟩
      · exact absurd hin f
      have ht9 := sm9 _ _ ht7
      have hw9 := sm9 _ _ hw7
      -- self.stored[rule[0]].append((rule[1], list(rule[2])))
      refine ⟨_, rfl, g, _, _, _, _, rfl, b9.ins, T.cl_Grammar, T.n_Grammar_stored, gfs_stored _ _ _, _, rfl, t, _, _, _, rfl, rfl, SqT.of ht9, atI_nat (j := 0) rfl, st, _, rfl, .inl ⟨_, Sum.inr r.1, .inl b9.sd, rfl, el.symm⟩, .inl ⟨rfl, _, SqL.of hus⟩, ?_⟩
      refine ⟨_, rfl, t, _, _, _, rfl, rfl, SqT.of ht9, atI_nat (j := 1) rfl, _, rfl, t, _, _, _, rfl, rfl, SqT.of ht9, atI_nat (j := 2) rfl, w0, _, rfl, .inl (SqL.of hw9), fun w hw => ⟨sl2 (by show 2 ≤ 1000000; decide), fun u hu3 => ?_⟩⟩
      have sm2 := (same_new hw (o := .lst (r.2.2.map V.str))).trans (same_new hu3 (o := .tup [.str r.2.1, .ref w]))
      have b10 := b9.same sm2
      have hwU : (upd (upd H9 w (.lst (r.2.2.map V.str))) u (.tup [.str r.2.1, .ref w])) w = some (.lst (r.2.2.map V.str)) := by rw [upd_ne (ne_of_none upd_same hu3), upd_same]
      have huU : (upd (upd H9 w (.lst (r.2.2.map V.str))) u (.tup [.str r.2.1, .ref w])) u = some (.tup [.str r.2.1, .ref w]) := upd_same
      have hus10 := sm2 _ _ hus
      have hw0' : H9 w = none := hw
      have hu0 : H9 u = none := (same_new hw).free hu3
      have ht10 := sm2 _ _ ht9
      have hwb : w ∉ od :: ls := fun z => by
        rcases List.mem_cons.mp z with z | z
        · rw [z, b9.hod] at hw; cases hw
        · obtain ⟨j', hj'⟩ := List.mem_iff_getElem?.mp z
          have hn' : ∃ n', names[j']? = some n' := ⟨_, List.getElem?_eq_getElem (by rw [paired_len b9.prs]; exact (List.getElem?_eq_some_iff.mp hj').1)⟩
          obtain ⟨n', hn'⟩ := hn'
          obtain ⟨_, g1, _⟩ := paired_ix b9.prs hn' hj'
          rw [g1] at hw; cases hw
      generalize (upd (upd H9 w (.lst (r.2.2.map V.str))) u (.tup [.str r.2.1, .ref w])) = H10 at b10 hwU huU hus10 ht10 sm2 ⊢
      have hul : us.length = (rulesOf (rs.take i) r.1).length := paired_len hup
      refine ⟨l, _, _, rfl, rfl, hus10, by rw [List.length_map, hul]; exact sl1 (by omega), ?_⟩
      -- self.order.append(rule[0])
      have nlo : l ≠ od := fun z => b10.odl (z ▸ List.mem_of_getElem? hl)
      have ho10 : (upd H10 l (.lst (us.map V.ref ++ [.ref u]))) od = some (.lst (((rs.take i).map (·.1)).map V.str)) := by rw [upd_ne nlo.symm]; exact b10.hod
      have hg10 : (upd H10 l (.lst (us.map V.ref ++ [.ref u]))) g = some (.ins A.c_Grammar dx (gfs kn st od)) := by rw [upd_ne (ne_of b10.ins hus10 (by intro z; cases z))]; exact b10.ins
      have ht11 : (upd H10 l (.lst (us.map V.ref ++ [.ref u]))) t = some (.tup [.str r.1, .str r.2.1, .ref w0]) := by rw [upd_ne (ne_of ht10 hus10 (by intro z; cases z))]; exact ht10
      refine ⟨_, rfl, g, _, _, _, _, rfl, hg10, T.cl_Grammar, T.n_Grammar_order, gfs_order _ _ _, .inl ⟨rfl, _, SqL.of ho10⟩, _, rfl, t, _, _, _, rfl, rfl, SqT.of ht11, atI_nat (j := 0) rfl, od, _, _, rfl, rfl, ho10, by rw [List.length_map, List.length_map, List.length_take]; exact sl1 (by omega), ?_⟩
      refine ⟨_, _, _, rfl, ?_⟩
      rw [take_snoc hr1]
      exact b10.put hnd hj hl hus10 (b9.fresh hu0) (b9.fresh hw0') huU hwU hwb rfl
    · rintro σ' H6 ⟨x3, x4, x5, rfl, b⟩
      rw [List.length_map, htl, List.take_length] at b
      exact q H6 b.base ⟨dx, kn, st, od, ls, b⟩
end
section
variable {P : Program} {w : World} {K : PySem.W.Frag} {mg : Str → Option Value} {base : Heap} {A : Ad}
/-! ### steps -/
def sp_look (C : Addr) : Sp := fun vs H Q _ => ∃ (g a : Addr) (names : List Str) (rs : List Rule) (row : List Str), vs = [.ref g, .ref a] ∧ GramAt C H g names rs ∧ H a = some (.lst (row.map V.str)) ∧ (∀ x ∈ row, x ∈ names) ∧ Q .non H
theorem ok_look_at_names (T : Txt K mg A) : FnOk P w K mg base CX0 2 A.a_look_at_names A.d_look_at_names ["grammar", "row"] (sp_look A.c_Grammar) := by
  have G_Grammar_has : FnOk P w K mg base CX0 1 A.a_Grammar_has A.d_Grammar_has ["self", "name"] (sp_G_has A.c_Grammar) := ok_Grammar_has T
  refine T.F_look_at_names.ok sc_look_at_names (fun vs H Q E h => ?_) (fun cdv A0 outer s0 H vs Q E hr h => ?_)
  · obtain ⟨_, _, _, _, _, rfl, _⟩ := h
    rfl
  · obtain ⟨g, a, names, rs, row, rfl, G, ha, hin, q⟩ := h
    obtain ⟨dx, kn, st, od, hg⟩ := G.ins
    refine ⟨_, (pss_one (ps_for PassesOwn.never rfl (pi_list (pv 1)) (pg_name (i := 2) sc_look_at_names.nd rfl (Or.inl rfl))
 (pss_one (ps_if (pt_not (pt_val (pe_meth (pv 0) T.cl_Grammar T.m_Grammar_has G_Grammar_has (hr.mono (by decide)) T.b_Grammar_has .nil pass0 (pa_cons (pv 2) pa_nil)))) (pss_one ps_never) pss_nil)))), ?_⟩
    refine ⟨_, rfl, a, rfl, ⟨_, SqL.of ha⟩, for_list (K := K) (a := a) (xs := row.map V.str) (fun i σ' H' => ∃ x2 : Option V, σ' = [some (.ref g), some (.ref a), x2] ∧ H' = H) ?_ ?_ ?_ ?_⟩
    · exact ⟨_, rfl, rfl⟩
    · rintro i σ' H' _ ⟨_, rfl, rfl⟩
      exact SqL.of ha
    · rintro i x σ' H' hi ⟨x2, rfl, rfl⟩
      obtain ⟨n, hn, rfl⟩ := map_at hi
      have hm := hin n (List.mem_of_getElem? hn)
      refine ⟨_, rfl, g, _, _, rfl, hg, gfs_no _ _ _ (by decide +kernel) (by decide +kernel) (by decide +kernel), _, rfl, g, names, rs, n, rfl, G, _, rfl, iteNE (decide_eq_true hm) ?_⟩
      exact ⟨_, rfl, rfl⟩
    · rintro σ' H' ⟨_, rfl, rfl⟩
      exact q
end
section
variable {P : Program} {w : World} {K : PySem.W.Frag} {mg : Str → Option Value} {base : Heap} {A : Ad}
/-! ### norms -/
def sp_added : Sp := fun vs H Q _ => ∃ (d a : Addr) (kvs : List (Key × V)) (wt : Wt) (row : List Str), vs = [.ref d, .ref a] ∧ H d = some (.dK kvs) ∧ (∀ x ∈ row, valV kvs (Sum.inr x : Key) = some (optV (wt x))) ∧ H a = some (.lst (row.map V.str)) ∧ row.length ≤ 1000000 ∧ ∀ H', Same H H' → Q (optV (addW wt row)) H'
theorem ok_added_up (T : Txt K mg A) : FnOk P w K mg base CX0 1 A.a_added_up A.d_added_up ["norms", "row"] sp_added := by
  refine T.F_added_up.ok sc_added_up (fun vs H Q E h => ?_) (fun cdv A0 outer s0 H vs Q E hr h => ?_)
  · obtain ⟨_, _, _, _, _, rfl, _⟩ := h
    rfl
  · obtain ⟨d, a, kvs, wt, row, rfl, hd, hval, ha, hl, q⟩ := h
    have hu := hu_of hr
    have hu64 := hu64_of hr
    refine ⟨_, (pss_cons (ps_setLc (i := 2) (own := [("name", 3)]) (g := gName 3) (by rfl) sc_added_up.nd rfl rfl (sw_true rfl rfl rfl (by decide +kernel)) (pi_list (pv 1)) (blkOk_by (own := [("name", 3)]) (N := ["norms", "row", "some", "name"]) (sc := defScope s_added_up) (by decide +kernel)) (fun _ _ _ _ _ => (pg_name (i := 3) sc_added_up.nd rfl (Or.inl rfl))) (fun _ _ _ _ _ => pts_nil) (fun _ _ _ _ _ => (pe_dget hu (pv 0) (pv 3) (fun _ _ => rfl))))
 (pss_cons (ps_if (pt_cmpR (r := rInP K) (op_inP hu64) pe_non (pv 2) (by rfl)) (pss_one (ps_ret pe_non)) pss_nil)
 (pss_one (ps_ret (pe_callB (id := "sum") (r := rSum K) (cr_sum rfl) (by rfl) T.sum (by decide +kernel) (pa_cons (pv 2) pa_nil)))))), ?_⟩
    refine ⟨_, rfl, a, rfl, ⟨_, SqL.of ha⟩, fun D hD => lc_scal (K := K) (ys := (row.map wt).map optV) (SqL.of ha) hD (by simp) (by rw [List.length_map]; exact hl) (fun _ => rfl) (fun i x y H' Q' g1 g2 sm k => ?_) (fun H2 sm2 hl2 => ?_)⟩
    · obtain ⟨x1, hx1, rfl⟩ := map_at g1
      have hx2 : (row.map wt)[i]? = some (wt x1) := by rw [List.getElem?_map, hx1]; rfl
      have ey := map_get hx2 g2
      subst ey
      exact ⟨_, rfl, _, rfl, d, _, rfl, .inl ⟨kvs, Sum.inr x1, .inl (sm _ _ hd), rfl, (hval x1 (List.mem_of_getElem? hx1)).symm⟩, k _ fun _ _ h => h⟩
    refine ⟨_, rfl, oD none, (row.map wt).map oD, .non, .inl (.lst (SqL.of hl2) (dpAll_oD _)), Nat.le_trans (dep_oD none) (by decide), _, rfl, ?_⟩
    rw [any_enc enc_oD]
    refine iteB (fun hc => ?_) (fun hc => ?_)
    · have e : addW wt row = none := addW_none.mpr (by simpa using hc)
      rw [e] at q
      exact q _ sm2
    · have e : addW wt row ≠ none := fun z => by
        have h1 := addW_none.mp z
        rw [decide_eq_false_iff_not] at hc
        exact hc (by simpa using h1)
      cases e2 : addW wt row with
      | none => exact absurd e2 e
      | some s =>
        obtain ⟨ns, e3, e4⟩ := addW_some e2
        rw [e2] at q
        rw [e3] at hl2
        refine ⟨_, rfl, D, ns, rfl, SqL.of hl2, ?_⟩
        rw [e4]
        exact q _ sm2
theorem RuleAt.dict {H : Hp} {d t : Addr} {kvs kvs2 : List (Key × V)} {p : Str × List Str} (hd : H d = some (.dK kvs)) (h : RuleAt H t p) : RuleAt (upd H d (.dK kvs2)) t p := by
  obtain ⟨w, h1, h2⟩ := h
  exact ⟨w, by rw [upd_ne (ne_of h1 hd (by intro z; cases z))]; exact h1, by rw [upd_ne (ne_of h2 hd (by intro z; cases z))]; exact h2⟩
def sp_norms (C : Addr) : Sp := fun vs H Q _ => ∃ (g : Addr) (names : List Str) (rs : List Rule), vs = [.ref g] ∧ GramAt C H g names rs ∧ names.Nodup ∧ names.length ≤ 1000 ∧ (∀ r ∈ rs, r.1 ∈ names ∧ ∀ x ∈ r.2.2, x ∈ names) ∧ ShortR rs ∧ ∀ p H', H p = none → Same H H' → H' p = some (.dK (kvsW names (normW rs))) → Q (.ref p) H'
theorem ok_norms (T : Txt K mg A) : FnOk P w K mg base CX0 2 A.a_norms A.d_norms ["grammar"] (sp_norms A.c_Grammar) := by
  have G_Grammar_names : FnOk P w K mg base CX0 1 A.a_Grammar_names A.d_Grammar_names ["self"] (sp_G_names A.c_Grammar) := ok_Grammar_names T
  have G_Grammar_rules_of : FnOk P w K mg base CX0 1 A.a_Grammar_rules_of A.d_Grammar_rules_of ["self", "name"] (sp_G_rules_of A.c_Grammar) := ok_Grammar_rules_of T
  have G_added_up : FnOk P w K mg base CX0 1 A.a_added_up A.d_added_up ["norms", "row"] sp_added := ok_added_up T
  refine T.F_norms.ok sc_norms (fun vs H Q E h => ?_) (fun cdv A0 outer s0 H vs Q E hr h => ?_)
  · obtain ⟨_, _, _, rfl, _⟩ := h
    rfl
  · obtain ⟨g, names, rs, rfl, G, hnd, hnl, hin, hsh, q⟩ := h
    have hu := hu_of hr
    obtain ⟨dx, kn, st, od, hg⟩ := G.ins
    have nm : ∀ {m : Str}, ¬ m = "known" → ¬ m = "stored" → ¬ m = "order" → (gfs kn st od).lookup m = none := gfs_no kn st od
    have hEf : ∀ e ∈ edP names rs, e.1 ∈ names := edP_fst
    refine ⟨_, (pss_cons (ps_set (i := 1) sc_norms.nd rfl (Or.inl rfl) (pe_callTy (T := "dict") (r := rDictP K) (call_dictP rfl) (by rfl) T.dict_ (by decide +kernel) (pa_cons (pe_lc (own := [("name", 3)]) (g := gName 3) (by rfl) sc_norms.nd (pi_list (pe_meth0 (pv 0) T.cl_Grammar T.m_Grammar_names G_Grammar_names (hr.mono (by decide)) T.b_Grammar_names .nil pass0)) (blkOk_by (own := [("name", 3)]) (N := ["grammar", "found", "again", "name", "letter", "row", "norm"]) (sc := defScope s_norms) (by decide +kernel)) (fun _ _ _ _ _ => (pg_name (i := 3) sc_norms.nd rfl (Or.inl rfl))) (fun _ _ _ _ _ => pts_nil) (fun _ _ _ _ _ => (pe_tup (pa_cons (pv 3) (pa_cons pe_non pa_nil))))) pa_nil)))
 (pss_cons (ps_set (i := 2) sc_norms.nd rfl (Or.inl rfl) pe_bl)
 (pss_cons (ps_while PassesOwn.never (pt_val (pv 2)) (pss_cons (ps_set (i := 2) sc_norms.nd rfl (Or.inl rfl) pe_bl)
 (pss_one (ps_for PassesOwn.never rfl (pi_list (pe_meth0 (pv 0) T.cl_Grammar T.m_Grammar_names G_Grammar_names (hr.mono (by decide)) T.b_Grammar_names .nil pass0)) (pg_name (i := 3) sc_norms.nd rfl (Or.inl rfl))
 (pss_one (ps_for PassesOwn.never rfl (pi_list (pe_meth (pv 0) T.cl_Grammar T.m_Grammar_rules_of G_Grammar_rules_of (hr.mono (by decide)) T.b_Grammar_rules_of .nil pass0 (pa_cons (pv 3) pa_nil))) (pg_tup (by rfl) (pgs_cons (pg_name (i := 4) sc_norms.nd rfl (Or.inl rfl)) (pgs_cons (pg_name (i := 5) sc_norms.nd rfl (Or.inl rfl)) pgs_nil)))
 (pss_cons (ps_set (i := 6) sc_norms.nd rfl (Or.inl rfl) (pe_call G_added_up (hr.mono (by decide)) (by rfl) T.g_added_up T.F_added_up.kp T.b_added_up .nil pass0 (pa_cons (pv 1) (pa_cons (pv 5) pa_nil))))
 (pss_one (ps_if (PW.pt (pw_and (pt_cmpR op_notN (pv 6) pe_non (nomark _)) (pw_and1 (PW.pt (pw_or (pt_cmpR op_isN (pe_dget hu (pv 1) (pv 3) (fun _ _ => rfl)) pe_non (nomark _)) (pw_or1 (pt_cmpR op_lt (pe_op op_add (pv 6) pe_int) (pe_dget hu (pv 1) (pv 3) (fun _ _ => rfl)) (nomark _)))))))) (pss_cons (ps_dput hu (pv 1) (pv 3) (pe_op op_add (pv 6) pe_int) rfl)
 (pss_one (ps_set (i := 2) sc_norms.nd rfl (Or.inl rfl) pe_bl))) pss_nil)))))))))
 (pss_one (ps_ret (pv 1)))))), ?_⟩
    -- found
    refine ⟨_, rfl, g, _, _, rfl, hg, nm (by decide +kernel) (by decide +kernel) (by decide +kernel), g, names, rs, rfl, G, fun p1 H1 hp1 sm1 hl1 => ?_⟩
    refine ⟨p1, rfl, ⟨_, SqL.of hl1⟩, fun D hD => lc_list (K := K) (a := p1) (xs := names.map V.str) (fun i H' => Same H1 H' ∧ ∃ us : List Addr, H' D = some (.lst (us.map V.ref)) ∧ Paired (fun u n => u ≠ D ∧ H' u = some (.tup [.str n, .non])) us (names.take i)) ?_ ?_ ?_ ?_⟩
    · exact ⟨same_new hD, [], upd_same, .nil⟩
    · rintro i H' _ ⟨sm, _⟩
      exact SqL.of (sm _ _ hl1)
    · rintro i x H' hi ⟨sm, us, hu1, hu2⟩
      obtain ⟨n, hn, rfl⟩ := map_at hi
      refine ⟨rfl, tyes (iteT ?_)⟩
      refine ⟨_, rfl, sl2 (by show 2 ≤ 1000000; decide), fun u hu3 => ?_⟩
      have smu := same_new hu3 (o := .tup [.str n, .non])
      have nuD : u ≠ D := fun z => by rw [z, hu1] at hu3; cases hu3
      refine ⟨_, smu _ _ hu1, by rw [List.length_map, paired_len hu2, List.length_take]; exact sl1 (by omega), same_mut (sm.trans smu) hD, us ++ [u], by rw [upd_same, List.map_append]; rfl, ?_⟩
      rw [take_snoc hn]
      exact paired_app (F := fun u' n' => u' ≠ D ∧ (upd (upd H' u (.tup [.str n, .non])) D _) u' = some (.tup [.str n', .non])) ⟨nuD, by rw [upd_ne nuD, upd_same]⟩ (Paired.mapP hu2 fun _ _ ⟨a1, a2⟩ => ⟨a1, by rw [upd_ne a1]; exact smu _ _ a2⟩)
    rintro H2 ⟨sm2, us, hu1, hu2⟩
    rw [List.length_map, List.take_length] at hu2
    have hkv0 : Paired (fun p (kv : Key × V) => SqT K H2 p [kV kv.1, kv.2]) us (kvsW names (rounds (edP names rs) 0)) := by
      unfold kvsW
      refine paired_all (by rw [paired_len hu2, List.length_map]) fun i u kv h1 h2 => ?_
      obtain ⟨n, hn, rfl⟩ := map_at h2
      exact SqT.of (paired_ix hu2 h1 hn).2
    refine ⟨D, us, kvsW names (rounds (edP names rs) 0), rfl, SqL.of hu1, hkv0, fun d hd => ?_⟩
    have hmg : mergeK [] (kvsW names (rounds (edP names rs) 0)) = kvsW names (rounds (edP names rs) 0) := by
      rw [mergeK_nd (fun _ _ => rfl)]
      · rfl
      · have : (kvsW names (rounds (edP names rs) 0)).map (·.1) = names.map (Sum.inr : Str → Key) := by
          unfold kvsW
          rw [List.map_map]
          rfl
        rw [this]
        exact List.pairwise_map.mpr (hnd.imp fun h e => h (Sum.inr.inj e))
    rw [hmg]
    have smd := same_new hd (o := .dK (kvsW names (rounds (edP names rs) 0)))
    have hd0 : H d = none := sm1.free (sm2.free hd)
    have sm03 : Same H (upd H2 d (.dK (kvsW names (rounds (edP names rs) 0)))) := sm1.trans (sm2.trans smd)
    have hd3 : (upd H2 d (.dK (kvsW names (rounds (edP names rs) 0)))) d = some (.dK (kvsW names (rounds (edP names rs) 0))) := upd_same
    generalize (upd H2 d (.dK (kvsW names (rounds (edP names rs) 0)))) = H3 at smd sm03 hd3 ⊢
    clear smd hd hkv0 hu2 hu1 sm2 hD hl1 sm1 hp1
    -- while again
    refine ⟨fun m σ' H' => ∃ (b : Bool) (t : Nat) (x3 x4 x5 x6 : Option V), σ' = [some (.ref g), some (.ref d), some (.bl b), x3, x4, x5, x6] ∧ Same H H' ∧ H' d = some (.dK (kvsW names (rounds (edP names rs) t))) ∧ ((b = true ∧ t ≤ names.length ∧ m = names.length + 1 - t) ∨ (b = false ∧ rounds (edP names rs) t = muW (edP names rs) ∧ m = 0)), ⟨names.length + 1, true, 0, _, _, _, _, rfl, sm03, hd3, .inl ⟨rfl, Nat.zero_le _, rfl⟩⟩, ?_⟩
    clear hd3 sm03
    rintro m σ' H4 ⟨b, t, x3, x4, x5, x6, rfl, sm4, hd4, hb⟩
    refine ⟨_, rfl, _, rfl, ?_⟩
    rcases hb with ⟨rfl, ht, hm⟩ | ⟨rfl, hmu, _⟩
    · refine iteT ?_
      refine ⟨fun σ' H' => ∃ (b : Bool) (x3 x4 x5 x6 : Option V), σ' = [some (.ref g), some (.ref d), some (.bl b), x3, x4, x5, x6] ∧ Same H H' ∧ H' d = some (.dK (kvsW names (rounds (edP names rs) (t + 1)))) ∧ (b = false → rounds (edP names rs) (t + 1) = rounds (edP names rs) t) ∧ (rounds (edP names rs) t = muW (edP names rs) → b = false), ?_, ?_⟩
      · rintro σ' H' ⟨b, x3, x4, x5, x6, rfl, sm, hd', h1, h2⟩
        cases b with
        | true =>
          have htl : t < names.length := Nat.lt_of_not_le fun l => by
            have := h2 (rounds_mu hEf l)
            cases this
          exact ⟨names.length + 1 - (t + 1), by omega, true, t + 1, _, _, _, _, rfl, sm, hd', .inl ⟨rfl, htl, rfl⟩⟩
        | false =>
          have hst := rounds_stop hEf (h1 rfl)
          exact ⟨0, by omega, false, t + 1, _, _, _, _, rfl, sm, hd', .inr ⟨rfl, (h1 rfl).trans hst, rfl⟩⟩
      · -- a round
        generalize hw0 : rounds (edP names rs) t = w0 at hd4
        have hr1 : rounds (edP names rs) (t + 1) = (edP names rs).foldl relax w0 := by rw [← hw0]; rfl
        rw [hr1]
        refine ⟨_, rfl, g, _, _, rfl, sm4 _ _ hg, nm (by decide +kernel) (by decide +kernel) (by decide +kernel), g, names, rs, rfl, G.same sm4, fun p1 H5 hp1 sm5 hl5 => ?_⟩
        refine ⟨p1, rfl, ⟨_, SqL.of hl5⟩, for_list (K := K) (a := p1) (xs := names.map V.str) (fun i σ' H' => ∃ (b : Bool) (x3 x4 x5 x6 : Option V), σ' = [some (.ref g), some (.ref d), some (.bl b), x3, x4, x5, x6] ∧ Same H H' ∧ H' p1 = some (.lst (names.map V.str)) ∧ H' d = some (.dK (kvsW names (((names.take i).flatMap (edN rs)).foldl relax w0))) ∧ (b = false → ((names.take i).flatMap (edN rs)).foldl relax w0 = w0) ∧ (w0 = muW (edP names rs) → b = false)) ?_ ?_ ?_ ?_⟩
        · exact ⟨false, _, _, _, _, rfl, sm4.trans sm5, hl5, sm5 _ _ hd4, fun _ => rfl, fun _ => rfl⟩
        · rintro i σ' H' _ ⟨_, _, _, _, _, rfl, _, h, _⟩
          exact SqL.of h
        · rintro i x σ' H6 hi ⟨b, x3, x4, x5, x6, rfl, sm6, hl6, hd6, hb1, hb2⟩
          obtain ⟨n, hn, rfl⟩ := map_at hi
          have hnm := List.mem_of_getElem? hn
          have hsn := hsh.of n
          generalize hE1 : (names.take i).flatMap (edN rs) = E1 at hd6 hb1
          have hE2 : (names.take (i + 1)).flatMap (edN rs) = E1 ++ edN rs n := by
            rw [take_snoc hn, List.flatMap_append, hE1]
            simp
          rw [hE2]
          have hEin : ∀ p ∈ rulesOf rs n, (n, p.2) ∈ edP names rs := fun p hp => List.mem_flatMap.mpr ⟨n, hnm, List.mem_map.mpr ⟨p, hp, rfl⟩⟩
          refine ⟨_, rfl, g, _, _, rfl, sm6 _ _ hg, nm (by decide +kernel) (by decide +kernel) (by decide +kernel), _, rfl, g, names, rs, n, rfl, G.same sm6, hnm, by omega, fun p2 H7 nr => ?_⟩
          obtain ⟨hp2, sm7, us, hus, hpr⟩ := nr
          have hP7 : Paired (RuleAt H7) us (rulesOf rs n) := Paired.mapP hpr fun _ _ ⟨_, w, _, h3, h4⟩ => ⟨w, h3, h4⟩
          refine ⟨p2, rfl, ⟨_, SqL.of hus⟩, for_list (K := K) (a := p2) (xs := us.map V.ref) (fun j σ' H' => ∃ (b : Bool) (x4 x5 x6 : Option V), σ' = [some (.ref g), some (.ref d), some (.bl b), some (.str n), x4, x5, x6] ∧ Same H H' ∧ H' p1 = some (.lst (names.map V.str)) ∧ H' p2 = some (.lst (us.map V.ref)) ∧ Paired (RuleAt H') us (rulesOf rs n) ∧ H' d = some (.dK (kvsW names ((E1 ++ ((rulesOf rs n).take j).map fun p => (n, p.2)).foldl relax w0))) ∧ (b = false → (E1 ++ ((rulesOf rs n).take j).map fun p => (n, p.2)).foldl relax w0 = w0) ∧ (w0 = muW (edP names rs) → b = false)) ?_ ?_ ?_ ?_⟩
          · refine ⟨b, _, _, _, rfl, sm6.trans sm7, sm7 _ _ hl6, hus, hP7, ?_, ?_, hb2⟩
            · rw [List.take_zero, List.map_nil, List.append_nil]; exact sm7 _ _ hd6
            · rw [List.take_zero, List.map_nil, List.append_nil]; exact hb1
          · rintro i σ' H' _ ⟨_, _, _, _, rfl, _, _, h, _⟩
            exact SqL.of h
          · clear hd6 hb1 hb2 hl6 sm6 hP7 hpr hus sm7 hp2
            rintro j x σ' H8 hj ⟨b, x4, x5, x6, rfl, sm8, hl8, hus8, hP8, hd8, hb1, hb2⟩
            obtain ⟨u, hu1, rfl⟩ := map_at hj
            obtain ⟨r, hr2, w1, hw1, hw2⟩ := paired_get hP8 hu1
            have hrm := List.mem_of_getElem? hr2
            have hin2 := hin _ (mem_rulesOf.mp hrm)
            rw [take_snoc hr2, List.map_append, ← List.append_assoc, List.foldl_append]
            have hmuF : w0 = muW (edP names rs) → (E1 ++ ((rulesOf rs n).take j).map fun p => (n, p.2)).foldl relax w0 = w0 := fun h => hb1 (hb2 h)
            generalize hW : (E1 ++ ((rulesOf rs n).take j).map fun p => (n, p.2)).foldl relax w0 = W at hd8 hb1 hmuF ⊢
            show _
            refine ⟨u, _, rfl, SqT.of hw1, rfl, _, _, rfl, _, _, rfl, rfl, ?_⟩
            refine ⟨_, rfl, _, rfl, d, w1, kvsW names W, W, r.2, rfl, hd8, fun x hx => kvsW_val (hin2.2 x hx), hw2, Nat.le_trans (hsn.2 r hrm) (by decide), fun H9 sm9 => ?_⟩
            have hd9 := sm9 _ _ hd8
            have sm89 := sm8.trans sm9
            have hP9 : Paired (RuleAt H9) us (rulesOf rs n) := Paired.mapP hP8 fun _ _ h => h.same sm9
            have hl9 := sm9 _ _ hl8
            have hus9 := sm9 _ _ hus8
            refine ⟨_, rfl, rfl, _, rfl, ?_⟩
            have hrel : relax W (n, r.2) = match addW W r.2 with
              | none => W
              | some s => match W n with
                | none => fun m => if m = n then some (s + 1) else W m
                | some v => if s + 1 < v then (fun m => if m = n then some (s + 1) else W m) else W := rfl
            cases hs : addW W r.2 with
            | none =>
              refine iteF ?_
              rw [hs] at hrel
              simp only at hrel
              refine ⟨b, _, _, _, rfl, sm89, hl9, hus9, hP9, ?_, ?_, hb2⟩
              · show H9 d = some (.dK (kvsW names (relax W (n, r.2))))
                rw [hrel]; exact hd9
              · show b = false → relax W (n, r.2) = w0
                rw [hrel]; exact hb1
            | some s =>
              refine iteT ?_
              rw [hs] at hrel
              simp only at hrel
              have hvn : valV (kvsW names W) (Sum.inr n : Key) = some (optV (W n)) := kvsW_val hnm
              -- the writing of a less one
              have put : ∀ H2 : Hp, H2 = H9 → (relax W (n, r.2) = fun m => if m = n then some (s + 1) else W m) → (relax W (n, r.2) ≠ W) →
                  ∃ (b : Bool) (x4' x5' x6' : Option V), [some (V.ref g), some (V.ref d), some (V.bl true), some (V.str n), some (V.str r.1), some (V.ref w1), some (V.int (s : Int))] = [some (.ref g), some (.ref d), some (.bl b), some (.str n), x4', x5', x6'] ∧ Same H (upd H2 d (.dK (putK (kvsW names W) (Sum.inr n : Key) (.int ((s : Int) + 1))))) ∧ (upd H2 d (.dK (putK (kvsW names W) (Sum.inr n : Key) (.int ((s : Int) + 1))))) p1 = some (.lst (names.map V.str)) ∧ (upd H2 d (.dK (putK (kvsW names W) (Sum.inr n : Key) (.int ((s : Int) + 1))))) p2 = some (.lst (us.map V.ref)) ∧ Paired (RuleAt (upd H2 d (.dK (putK (kvsW names W) (Sum.inr n : Key) (.int ((s : Int) + 1)))))) us (rulesOf rs n) ∧ (upd H2 d (.dK (putK (kvsW names W) (Sum.inr n : Key) (.int ((s : Int) + 1))))) d = some (.dK (kvsW names (relax W (n, r.2)))) ∧ (b = false → relax W (n, r.2) = w0) ∧ (w0 = muW (edP names rs) → b = false) := fun H2 e1 e2 e3 => by
                subst e1
                refine ⟨true, _, _, _, rfl, same_mut sm89 hd0, by rw [upd_ne (ne_of hl9 hd9 (by intro z; cases z))]; exact hl9, by rw [upd_ne (ne_of hus9 hd9 (by intro z; cases z))]; exact hus9, Paired.mapP hP9 fun _ _ h => h.dict hd9, by rw [upd_same, kvsW_put hnm, e2], fun h => (by cases h), fun h => ?_⟩
                exfalso
                have hWm : W = muW (edP names rs) := (hmuF h).trans h
                rw [hWm] at e3
                exact e3 (relax_mu (hEin r hrm))
              refine ⟨_, rfl, _, rfl, d, _, rfl, .inl ⟨_, Sum.inr n, .inl hd9, rfl, hvn.symm⟩, rfl, _, rfl, ?_⟩
              cases hv : W n with
              | none =>
                refine iteT ?_
                rw [hv] at hrel
                simp only at hrel
                refine ⟨_, rfl, _, _, rfl, rfl, _, rfl, _, rfl, d, _, rfl, DPut.k (k := Sum.inr n) hd9 (sl1 (by rw [kvsW_len]; omega)), ?_⟩
                exact put _ rfl hrel fun z => by
                  have := congrFun (hrel.symm.trans z) n
                  simp only [if_true] at this
                  rw [hv] at this
                  cases this
              | some v =>
                refine iteF ?_
                rw [hv] at hrel hvn
                simp only at hrel
                refine ⟨_, rfl, _, _, rfl, rfl, _, rfl, _, rfl, d, _, rfl, .inl ⟨_, Sum.inr n, .inl hd9, rfl, hvn.symm⟩, _, _, rfl, rfl, _, rfl, iteB (fun hc => ?_) (fun hc => ?_)⟩
                · have hlt : s + 1 < v := by
                    have := of_decide_eq_true hc
                    omega
                  rw [if_pos hlt] at hrel
                  refine ⟨_, rfl, _, _, rfl, rfl, _, rfl, _, rfl, d, _, rfl, DPut.k (k := Sum.inr n) hd9 (sl1 (by rw [kvsW_len]; omega)), ?_⟩
                  exact put _ rfl hrel fun z => by
                    have := congrFun (hrel.symm.trans z) n
                    simp only [if_true] at this
                    rw [hv] at this
                    have := Option.some.inj this
                    omega
                · have hlt : ¬ s + 1 < v := by
                    have := of_decide_eq_false hc
                    omega
                  rw [if_neg hlt] at hrel
                  refine ⟨b, _, _, _, rfl, sm89, hl9, hus9, hP9, ?_, ?_, hb2⟩
                  · show H9 d = some (.dK (kvsW names (relax W (n, r.2))))
                    rw [hrel]; exact hd9
                  · show b = false → relax W (n, r.2) = w0
                    rw [hrel]; exact hb1
          · rintro σ' H8 ⟨b, x4, x5, x6, rfl, sm8, hl8, hus8, hP8, hd8, hb1, hb2⟩
            rw [List.length_map, paired_len hP8, List.take_length] at hd8 hb1
            exact ⟨b, _, _, _, _, rfl, sm8, hl8, hd8, hb1, hb2⟩
        · rintro σ' H6 ⟨b, x3, x4, x5, x6, rfl, sm6, hl6, hd6, hb1, hb2⟩
          rw [List.length_map, List.take_length] at hd6 hb1
          exact ⟨b, _, _, _, _, rfl, sm6, hd6, hb1, hb2⟩
    · refine iteF ?_
      rw [hmu, normW_edP fun r hr1 => (hin r hr1).1] at hd4
      exact ⟨_, rfl, q d H4 hd0 sm4 hd4⟩
end
end SG
namespace SG
open PySem PySem.Spec PyProof.Rows L2 LamX
section
variable {P : Program} {w : World} {K : PySem.W.Frag} {mg : Str → Option Value} {base : Heap} {A : Ad}
def sp_each_once : Sp := fun vs H Q _ => ∃ (a : Addr) (ts : List Addr) (ps : List Step), vs = [.ref a] ∧ H a = some (.lst (ts.map V.ref)) ∧ Paired (RuleAt H) ts ps ∧ ps.length ≤ 1000000 ∧ ∀ p H' (us : List Addr), H p = none → Same H H' → H' p = some (.lst (us.map V.ref)) → Paired (fun t p => (t, p) ∈ ts.zip ps) us (each1 ps) → Q (.ref p) H'
theorem ok_each_once (T : Txt K mg A) : FnOk P w K mg base CX0 1 A.a_each_once A.d_each_once ["steps"] sp_each_once := by
  refine T.F_each_once.ok sc_each_once (fun vs H Q E h => ?_) (fun cdv A0 outer s0 H vs Q E hr h => ?_)
  · obtain ⟨_, _, _, rfl, _⟩ := h
    rfl
  · obtain ⟨a, ts, ps, rfl, ha, hp, hl, q⟩ := h
    have hu64 := hu64_of hr
    have htl : ts.length = ps.length := paired_len hp
    refine ⟨_, (pss_cons (ps_set (i := 1) sc_each_once.nd rfl (Or.inl rfl) (pe_lst pa_nil))
 (pss_cons (ps_for PassesOwn.never rfl (pi_list (pe_callB (id := "sorted") (r := rSortedG K) (cr_sortedG hu64) (by rfl) T.sorted (by decide +kernel) (pa_cons (pv 0) pa_nil))) (pg_name (i := 2) sc_each_once.nd rfl (Or.inl rfl))
 (pss_one (ps_if (PW.pt (pw_or (pt_cmpR (r := rEqP K) (op_eqP hu64) (pv 1) (pe_lst pa_nil) (nomark _)) (pw_or1 (pt_cmpR (r := rNeP K) (op_neP hu64) (pe_ix (r := rIxL K) ix_list (pv 1) (pe_un un_neg pe_int) (fun _ _ => rfl)) (pv 2) (nomark _))))) (pss_one (ps_expr (pe_bm PySem.F.plainAttrs_list PySem.F.slot_list_append PySem.F.type_list_append mt_append (pv 1) (pa_cons (pv 2) pa_nil)))) pss_nil)))
 (pss_one (ps_ret (pv 1))))), ?_⟩
    refine ⟨Nat.zero_le _, fun D hD => ?_⟩
    have smD := same_new hD (o := .lst [])
    refine ⟨_, rfl, Step, eRow, a, ts.map V.ref, ps, rfl, SqL.of (smD _ _ ha), dpAll_paired (F := RuleAt (upd H D (.lst []))) (fun t p h => dp_row h) (Paired.mapP hp fun _ _ h => h.same smD), alk_Row, srt_Row, fun p _ => Nat.le_trans (dep_Row p) (by decide), fun zs so hz1 hz2 hso => ?_⟩
    obtain ⟨ss, e1, hss, _⟩ := srt_refs_out (paired_zip hp) hz1 hz2
    rw [e1]
    have hsl : ss.length = ps.length := by rw [paired_len hss, (esort_perm eRow ps).length_eq]
    have sms := same_new hso (o := .lst (ss.map V.ref))
    have nsD : so ≠ D := (ne_of_none upd_same hso).symm
    have hso0 : H so = none := smD.free hso
    refine ⟨so, rfl, ⟨_, SqL.of upd_same⟩, for_list (K := K) (a := so) (xs := ss.map V.ref) (fun i σ' H' => ∃ (x2 : Option V) (us : List Addr), σ' = [some (.ref a), some (.ref D), x2] ∧ Same H H' ∧ H' so = some (.lst (ss.map V.ref)) ∧ H' D = some (.lst (us.map V.ref)) ∧ Paired (fun t p => (t, p) ∈ ts.zip ps) us (uniq ((esort eRow ps).take i))) ?_ ?_ ?_ ?_⟩
    · exact ⟨_, [], rfl, smD.trans sms, upd_same, sms _ _ upd_same, .nil⟩
    · rintro i σ' H' _ ⟨_, _, rfl, _, h, _⟩
      exact SqL.of h
    · rintro i x σ' H1 hi ⟨x2, us, rfl, sm, hs1, hD1, hP⟩
      obtain ⟨t, ht, rfl⟩ := map_at hi
      obtain ⟨p, hp1, hz⟩ := paired_get hss ht
      have hul : us.length ≤ i := by
        rw [paired_len hP]
        have h1 := (uniq_sub ((esort eRow ps).take i)).length_le
        rw [List.length_take] at h1
        omega
      have hil : i < ss.length := (List.getElem?_eq_some_iff.mp ht).1
      have htp := paired_of_zip hp hz
      have usAt : ∀ H2, Same H1 H2 → ListAt H2 D (uniq ((esort eRow ps).take i)) := fun H2 e => ⟨us, e _ _ hD1, Paired.mapP hP fun _ _ h => (paired_of_zip hp h).same (sm.trans e)⟩
      rw [take_snoc hp1]
      refine ⟨_, rfl, Nat.zero_le _, fun e he => ?_⟩
      have sm2 := same_new he (o := .lst [])
      refine ⟨eL eRow (uniq ((esort eRow ps).take i)), eL eRow [], dp_rows (usAt _ sm2), .lst (SqL.of upd_same) .nil, Nat.le_trans (dep_L dep_Row _) (by decide), _, rfl, ?_⟩
      rw [enc_L enc_Row]
      have sm02 := sm.trans sm2
      have hs2 := sm2 _ _ hs1
      have hD2 := sm2 _ _ hD1
      have us2 := usAt _ sm2
      have put : ∀ H2, Same H1 H2 → uniq ((esort eRow ps).take i ++ [p]) = uniq ((esort eRow ps).take i) ++ [p] →
          ∃ (x2 : Option V) (us' : List Addr), [some (V.ref a), some (V.ref D), some (V.ref t)] = [some (.ref a), some (.ref D), x2] ∧ Same H (upd H2 D (.lst (us.map V.ref ++ [V.ref t]))) ∧ (upd H2 D (.lst (us.map V.ref ++ [V.ref t]))) so = some (.lst (ss.map V.ref)) ∧ (upd H2 D (.lst (us.map V.ref ++ [V.ref t]))) D = some (.lst (us'.map V.ref)) ∧ Paired (fun t p => (t, p) ∈ ts.zip ps) us' (uniq ((esort eRow ps).take i ++ [p])) := fun H2 e eu =>
        ⟨_, us ++ [t], rfl, same_mut (sm.trans e) hD, by rw [upd_ne nsD]; exact e _ _ hs1, by rw [upd_same, List.map_append]; rfl, by rw [eu]; exact paired_app (F := fun t p => (t, p) ∈ ts.zip ps) hz hP⟩
      refine iteB (fun hc => ?_) (fun hc => ?_)
      · have e0 : uniq ((esort eRow ps).take i) = [] := by simpa using hc
        refine ⟨_, rfl, .inl ⟨rfl, _, SqL.of hD2⟩, _, rfl, D, _, _, rfl, rfl, hD2, by rw [List.length_map]; exact sl1 (by omega), ?_⟩
        refine put _ sm2 ?_
        rw [uniq_snoc, e0]
        rfl
      · have e0 : uniq ((esort eRow ps).take i) ≠ [] := by simpa using hc
        have eu : us ≠ [] := fun z => e0 (List.length_eq_zero_iff.mp (by rw [← paired_len hP, z]; rfl))
        obtain ⟨as, a1, bs, b1, g1, g2, g3⟩ := paired_back hP eu
        have hat : atI (us.map V.ref) (-1) = some (V.ref a1) := by
          rw [g1, List.map_append]
          exact atI_last _ _
        refine ⟨_, rfl, _, rfl, _, _, _, _, rfl, rfl, SqL.of hD2, hat, _, rfl, eRow b1, eRow p, dp_row ((paired_of_zip hp g3).same sm02), dp_row (htp.same sm02), Nat.le_trans (dep_Row _) (by decide), _, rfl, ?_⟩
        rw [enc_Row]
        refine iteB (fun hc2 => ?_) (fun hc2 => ?_)
        · have hne : b1 ≠ p := by simpa using hc2
          refine ⟨_, rfl, .inl ⟨rfl, _, SqL.of hD2⟩, _, rfl, D, _, _, rfl, rfl, hD2, by rw [List.length_map]; exact sl1 (by omega), ?_⟩
          refine put _ sm2 ?_
          rw [uniq_snoc, g2]
          unfold uniq1
          rw [if_neg]
          rw [List.getLast?_append]
          intro z
          exact hne (by simpa using z)
        · have hne : b1 = p := by simpa using hc2
          refine ⟨_, us, rfl, sm02, hs2, hD2, ?_⟩
          rw [uniq_snoc, g2]
          unfold uniq1
          rw [if_pos (by rw [List.getLast?_append, hne]; rfl), ← g2]
          exact hP
    · rintro σ' H1 ⟨x2, us, rfl, sm, hs1, hD1, hP⟩
      rw [List.length_map, hsl, ← (esort_perm eRow ps).length_eq, List.take_length] at hP
      exact ⟨_, rfl, q D H1 us hD sm hD1 hP⟩
end
section
variable {P : Program} {w : World} {K : PySem.W.Frag} {mg : Str → Option Value} {base : Heap} {A : Ad}
theorem new_rows_of {H H1 H2 : Hp} {D p : Addr} {ts us : List Addr} {ps : List Step} (hP : Paired (RowN H H1 D) ts ps) (sm : Same H1 H2) (smH : Same H H2) (hp : H p = none) (h2 : H2 p = some (.lst (us.map V.ref))) (hz : Paired (fun t p => (t, p) ∈ ts.zip ps) us (each1 ps)) : NewRows H H2 p (each1 ps) :=
  ⟨hp, smH, us, h2, Paired.mapP hz fun t q h => by
    obtain ⟨a1, _, w, a3, _, a5, a6⟩ := paired_of_zip hP h
    exact ⟨a1, w, a3, sm _ _ a5, sm _ _ a6⟩⟩
def sp_steps (C : Addr) (f : List Rule → List Str → List Step) : Sp := fun vs H Q _ => ∃ (g a : Addr) (names : List Str) (rs : List Rule) (row : List Str), vs = [.ref g, .ref a] ∧ GramAt C H g names rs ∧ H a = some (.lst (row.map V.str)) ∧ (∀ x ∈ row, x ∈ names) ∧ row.length ≤ 1000 ∧ ShortR rs ∧ ∀ p H', NewRows H H' p (f rs row) → Q (.ref p) H'
theorem ok_row_steps (T : Txt K mg A) : FnOk P w K mg base CX0 3 A.a_row_steps A.d_row_steps ["grammar", "row"] (sp_steps A.c_Grammar rowSteps) := by
  have G_look_at_names : FnOk P w K mg base CX0 2 A.a_look_at_names A.d_look_at_names ["grammar", "row"] (sp_look A.c_Grammar) := ok_look_at_names T
  have G_each_once : FnOk P w K mg base CX0 1 A.a_each_once A.d_each_once ["steps"] sp_each_once := ok_each_once T
  have G_Grammar_rules_of : FnOk P w K mg base CX0 1 A.a_Grammar_rules_of A.d_Grammar_rules_of ["self", "name"] (sp_G_rules_of A.c_Grammar) := ok_Grammar_rules_of T
  refine T.F_row_steps.ok sc_row_steps (fun vs H Q E h => ?_) (fun cdv A0 outer s0 H vs Q E hr h => ?_)
  · obtain ⟨_, _, _, _, _, rfl, _⟩ := h
    rfl
  · obtain ⟨g, a, names, rs, row, rfl, G, ha, hin, hrl, hsh, q⟩ := h
    have hu64 := hu64_of hr
    obtain ⟨dx, kn, st, od, hg⟩ := G.ins
    refine ⟨_, (pss_cons (ps_expr (pe_call G_look_at_names (hr.mono (by decide)) (by rfl) T.g_look_at_names T.F_look_at_names.kp T.b_look_at_names .nil pass0 (pa_cons (pv 0) (pa_cons (pv 1) pa_nil))))
 (pss_cons (ps_if (pt_cmpR (r := rEqP K) (op_eqP hu64) (pv 1) (pe_lst pa_nil) (nomark _)) (pss_one (ps_ret (pe_lst pa_nil))) pss_nil)
 (pss_one (ps_ret (pe_call G_each_once (hr.mono (by decide)) (by rfl) T.g_each_once T.F_each_once.kp T.b_each_once .nil pass0 (pa_cons (pe_lc (own := [("letter", 2), ("more", 3)]) (g := gTup K 2 (gCons (gName 2) (gCons (gName 3) gNil))) (by rfl) sc_row_steps.nd (pi_list (pe_meth (pv 0) T.cl_Grammar T.m_Grammar_rules_of G_Grammar_rules_of (hr.mono (by decide)) T.b_Grammar_rules_of .nil pass0 (pa_cons (pe_ix (r := rIxL K) ix_list (pv 1) pe_int (fun _ _ => rfl)) pa_nil))) (blkOk_by (own := [("letter", 2), ("more", 3)]) (N := ["grammar", "row", "letter", "more"]) (sc := defScope s_row_steps) (by decide +kernel)) (fun _ _ _ _ _ => (pg_tup (by rfl) (pgs_cons (pg_name (i := 2) sc_row_steps.nd rfl (Or.inl rfl)) (pgs_cons (pg_name (i := 3) sc_row_steps.nd rfl (Or.inl rfl)) pgs_nil)))) (fun _ _ _ _ _ => pts_nil) (fun _ _ _ _ _ => (pe_tup (pa_cons (pv 2) (pa_cons (pe_op op_cat (pv 3) (pe_slice (r := rSlL K) sl_list (pv 1) (po_some pe_int) po_none)) pa_nil))))) pa_nil)))))), ?_⟩
    refine ⟨_, rfl, _, rfl, g, a, names, rs, row, rfl, G, ha, hin, ?_⟩
    refine ⟨_, rfl, Nat.zero_le _, fun e he => ?_⟩
    have sm1 := same_new he (o := .lst [])
    have ha1 := sm1 _ _ ha
    refine ⟨eSs row, eSs [], dp_Ss ha1, .lst (SqL.of upd_same) .nil, Nat.le_trans (dep_Ss _) (by decide), _, rfl, ?_⟩
    rw [enc_Ss]
    refine iteB (fun hc => ?_) (fun hc => ?_)
    · have e0 : row = [] := by simpa using hc
      subst e0
      refine ⟨Nat.zero_le _, fun p hp => q p _ ⟨sm1.free hp, sm1.trans (same_new hp), [], upd_same, ?_⟩⟩
      rw [show rowSteps rs [] = [] from List.length_eq_zero_iff.mp (Nat.le_zero.mp (each1_len _))]
      exact .nil
    · cases row with
      | nil => simp at hc
      | cons n t =>
        have hsn := hsh.of n
        have hn := hin n List.mem_cons_self
        have ht1 : t.length ≤ 1000 := by simp at hrl; omega
        refine ⟨_, rfl, g, _, _, rfl, sm1 _ _ hg, gfs_no _ _ _ (by decide +kernel) (by decide +kernel) (by decide +kernel), _, rfl, _, _, _, _, rfl, rfl, SqL.of ha1, atI_nat (j := 0) rfl, g, names, rs, n, rfl, G.same sm1, hn, by omega, fun p1 H2 nr => ?_⟩
        obtain ⟨hp1, sm2, us, hus, hpr⟩ := nr
        have sm12 := sm1.trans sm2
        have ha2 := sm12 _ _ ha
        have hul : us.length ≤ 100 := by rw [paired_len hpr]; exact hsn.1
        refine ⟨p1, rfl, ⟨_, SqL.of hus⟩, fun D hD => lc_list (K := K) (a := p1) (xs := us.map V.ref) (fun i H' => Same H2 H' ∧ ∃ vs : List Addr, H' D = some (.lst (vs.map V.ref)) ∧ Paired (RowN H2 H' D) vs (((rulesOf rs n).take i).map fun p => (p.1, p.2 ++ t))) ?_ ?_ ?_ ?_⟩
        · exact ⟨same_new hD, [], upd_same, .nil⟩
        · rintro i H' _ ⟨sm, _⟩
          exact SqL.of (sm _ _ hus)
        · rintro i x H' hi ⟨sm, vs, hv1, hv2⟩
          obtain ⟨u0, hui, rfl⟩ := map_at hi
          obtain ⟨r, hr1, _, w0, _, hw1, hw2⟩ := paired_get hpr hui
          have hrl2 := hsn.2 r (List.mem_of_getElem? hr1)
          refine ⟨u0, _, rfl, SqT.of (sm _ _ hw1), rfl, _, _, rfl, _, _, rfl, rfl, rfl, tyes (iteT ?_)⟩
          refine ⟨_, rfl, _, rfl, _, rfl, _, rfl, a, _, rfl, SqL.of (sm _ _ ha2), fun c hc => ?_⟩
          have ec : cutV ((n :: t).map V.str) (some (1 : Int)) none = t.map V.str := by
            rw [show (1 : Int) = ((1 : Nat) : Int) from rfl, cut_ge]; rfl
          rw [ec]
          have smc := same_new hc (o := .lst (t.map V.str))
          have ncD : c ≠ D := fun z => by rw [z, hv1] at hc; cases hc
          refine ⟨w0, c, _, _, rfl, rfl, smc _ _ (sm _ _ hw2), upd_same, by rw [List.length_map, List.length_map]; exact sl2 (by omega), fun w hw => ⟨sl2 (by show 2 ≤ 1000000; decide), fun u hu3 => ?_⟩⟩
          have smw := same_new hw (o := .lst (r.2.map V.str ++ t.map V.str))
          have smu := same_new hu3 (o := .tup [.str r.1, .ref w])
          have smA := smc.trans (smw.trans smu)
          have nwD : w ≠ D := fun z => by rw [z, smc _ _ hv1] at hw; cases hw
          have nuD : u ≠ D := fun z => by rw [z, (smc.trans smw) _ _ hv1] at hu3; cases hu3
          have hwU := smu _ _ (upd_same : (upd (upd H' c (.lst (t.map V.str))) w (.lst (r.2.map V.str ++ t.map V.str))) w = _)
          refine ⟨_, smA _ _ hv1, by rw [List.length_map, paired_len hv2, List.length_map, List.length_take]; exact sl1 (by omega), same_mut (sm.trans smA) hD, vs ++ [u], by rw [upd_same, List.map_append]; rfl, ?_⟩
          rw [take_snoc hr1, List.map_append]
          refine paired_app (F := RowN H2 _ D) ⟨sm.free ((smc.trans smw).free hu3), nuD, w, sm.free (smc.free hw), nwD, ?_, ?_⟩ (Paired.mapP hv2 fun t r ⟨a1, a2, w, a3, a4, a5, a6⟩ => ⟨a1, a2, w, a3, a4, ?_, ?_⟩)
          · rw [upd_ne nuD, upd_same]
          · rw [upd_ne nwD, hwU, List.map_append]
          · rw [upd_ne a2]; exact smA _ _ a5
          · rw [upd_ne a4]; exact smA _ _ a6
        rintro H3 ⟨sm3, vs, hv1, hv2⟩
        rw [List.length_map, paired_len hpr, List.take_length] at hv2
        refine ⟨D, vs, _, rfl, hv1, Paired.mapP hv2 fun _ _ ⟨_, _, w, _, _, a5, a6⟩ => ⟨w, a5, a6⟩, by rw [List.length_map]; omega, fun p H4 us4 hp4 sm4 h4 hz => ?_⟩
        refine q p H4 (new_rows_of (D := D) (Paired.mapP hv2 fun _ _ ⟨a1, a2, w, a3, a4, a5, a6⟩ => ⟨sm12.free a1, a2, w, sm12.free a3, a4, a5, a6⟩) sm4 (sm12.trans (sm3.trans sm4)) (sm12.free (sm3.free hp4)) h4 hz)
theorem bagAt_at {rs : List Rule} {bag : List Str} {i : Nat} {n : Str} (h : bag[i]? = some n) : bagAt rs bag i = (rulesOf rs n).map fun p => (p.1, ssort (p.2 ++ (bag.take i ++ bag.drop (i + 1)))) := by
  unfold bagAt
  rw [h]
theorem ok_bag_steps (T : Txt K mg A) : FnOk P w K mg base CX0 3 A.a_bag_steps A.d_bag_steps ["grammar", "bag"] (sp_steps A.c_Grammar bagSteps) := by
  have G_look_at_names : FnOk P w K mg base CX0 2 A.a_look_at_names A.d_look_at_names ["grammar", "row"] (sp_look A.c_Grammar) := ok_look_at_names T
  have G_each_once : FnOk P w K mg base CX0 1 A.a_each_once A.d_each_once ["steps"] sp_each_once := ok_each_once T
  have G_Grammar_rules_of : FnOk P w K mg base CX0 1 A.a_Grammar_rules_of A.d_Grammar_rules_of ["self", "name"] (sp_G_rules_of A.c_Grammar) := ok_Grammar_rules_of T
  refine T.F_bag_steps.ok sc_bag_steps (fun vs H Q E h => ?_) (fun cdv A0 outer s0 H vs Q E hr h => ?_)
  · obtain ⟨_, _, _, _, _, rfl, _⟩ := h
    rfl
  · obtain ⟨g, a, names, rs, row, rfl, G, ha, hin, hrl, hsh, q⟩ := h
    have hu64 := hu64_of hr
    obtain ⟨dx, kn, st, od, hg⟩ := G.ins
    refine ⟨_, (pss_cons (ps_expr (pe_call G_look_at_names (hr.mono (by decide)) (by rfl) T.g_look_at_names T.F_look_at_names.kp T.b_look_at_names .nil pass0 (pa_cons (pv 0) (pa_cons (pv 1) pa_nil))))
 (pss_cons (ps_set (i := 2) sc_bag_steps.nd rfl (Or.inl rfl) (pe_lst pa_nil))
 (pss_cons (ps_for PassesOwn.never rfl (pi_enum (by rfl) T.enumerate (pa_cons (pv 1) pa_nil)) (pg_tup (by rfl) (pgs_cons (pg_name (i := 3) sc_bag_steps.nd rfl (Or.inl rfl)) (pgs_cons (pg_name (i := 4) sc_bag_steps.nd rfl (Or.inl rfl)) pgs_nil)))
 (pss_cons (ps_set (i := 5) sc_bag_steps.nd rfl (Or.inr rfl) (pe_op op_cat (pe_slice (r := rSlL K) sl_list (pv 1) po_none (po_some (pv 3))) (pe_slice (r := rSlL K) sl_list (pv 1) (po_some (pe_op op_add (pv 3) pe_int)) po_none)))
 (pss_one (ps_expr (pe_bm PySem.F.plainAttrs_list PySem.F.slot_list_extend PySem.F.type_list_extend mt_extend (pv 2) (pa_cons (pe_lc (own := [("letter", 6), ("more", 7)]) (g := gTup K 2 (gCons (gName 6) (gCons (gName 7) gNil))) (by rfl) sc_bag_steps.nd (pi_list (pe_meth (pv 0) T.cl_Grammar T.m_Grammar_rules_of G_Grammar_rules_of (hr.mono (by decide)) T.b_Grammar_rules_of .nil pass0 (pa_cons (pv 4) pa_nil))) (blkOk_by (own := [("letter", 6), ("more", 7)]) (N := ["grammar", "bag", "found", "at", "name", "rest", "letter", "more"]) (sc := defScope s_bag_steps) (by decide +kernel)) (fun _ _ _ _ _ => (pg_tup (by rfl) (pgs_cons (pg_name (i := 6) sc_bag_steps.nd rfl (Or.inl rfl)) (pgs_cons (pg_name (i := 7) sc_bag_steps.nd rfl (Or.inl rfl)) pgs_nil)))) (fun _ _ _ _ _ => pts_nil) (fun _ _ _ _ _ => (pe_tup (pa_cons (pv 6) (pa_cons (pe_callB (id := "sorted") (r := rSortedG K) (cr_sortedG hu64) (by rfl) T.sorted (by decide +kernel) (pa_cons (pe_op op_cat (pv 7) (pv 5)) pa_nil)) pa_nil))))) pa_nil))))))
 (pss_one (ps_ret (pe_call G_each_once (hr.mono (by decide)) (by rfl) T.g_each_once T.F_each_once.kp T.b_each_once .nil pass0 (pa_cons (pv 2) pa_nil))))))), ?_⟩
    refine ⟨_, rfl, _, rfl, g, a, names, rs, row, rfl, G, ha, hin, ?_⟩
    refine ⟨Nat.zero_le _, fun D hD => ?_⟩
    have smD := same_new hD (o := .lst [])
    refine ⟨_, rfl, a, _, rfl, SqL.of (smD _ _ ha), for_it (walk_enum (K := K) (a := a) (xs := row.map V.str)) (fun i σ' H' => ∃ (x3 x4 x5 x6 x7 : Option V) (us : List Addr), σ' = [some (.ref g), some (.ref a), some (.ref D), x3, x4, x5, x6, x7] ∧ Same H H' ∧ H' D = some (.lst (us.map V.ref)) ∧ us.length ≤ 100 * i ∧ Paired (RowN H H' D) us ((List.range i).flatMap (bagAt rs row))) ?_ ?_ ?_ ?_⟩
    · exact ⟨_, _, _, _, _, [], rfl, smD, upd_same, Nat.zero_le _, .nil⟩
    · rintro i σ' H' _ ⟨_, _, _, _, _, _, rfl, sm, _⟩
      exact SqL.of (sm _ _ ha)
    · rintro i x σ' H6 H7 hi ⟨x3, x4, x5, x6, x7, us, rfl, sm6, hD6, hul, hP⟩ ⟨T0, y1, y2, rfl, hT, rfl, e1, e2⟩
      have e1 := Option.some.inj e1
      subst e1
      obtain ⟨n, hni, rfl⟩ := map_at e2
      have hil : i < row.length := (List.getElem?_eq_some_iff.mp hni).1
      have smT := same_new hT (o := .tup [.int i, .str n])
      have nTD : T0 ≠ D := fun z => by rw [z, hD6] at hT; cases hT
      refine ⟨T0, _, rfl, SqT.of upd_same, rfl, _, _, rfl, _, _, rfl, rfl, ?_⟩
      have sm7 := sm6.trans smT
      have hD7 := smT _ _ hD6
      have hP7 : Paired (RowN H (upd H6 T0 (.tup [.int i, .str n])) D) us ((List.range i).flatMap (bagAt rs row)) := Paired.mapP hP fun _ _ ⟨a1, a2, w, a3, a4, a5, a6⟩ => ⟨a1, a2, w, a3, a4, smT _ _ a5, smT _ _ a6⟩
      generalize (upd H6 T0 (.tup [.int i, .str n])) = H7 at sm7 hD7 hP7 ⊢
      clear smT hT hP hD6 sm6 nTD
      -- rest
      refine ⟨_, rfl, _, rfl, _, rfl, a, _, rfl, SqL.of (sm7 _ _ ha), fun c1 hc1 => ?_⟩
      have sm1 := same_new hc1 (o := .lst (cutV (row.map V.str) none (some (i : Int))))
      have h1 : (upd H7 c1 (.lst (cutV (row.map V.str) none (some (i : Int))))) c1 = some (.lst ((row.take i).map V.str)) := by
        rw [upd_same, cut_lt, List.map_take]
      generalize (upd H7 c1 (.lst (cutV (row.map V.str) none (some (i : Int))))) = H8 at sm1 h1 ⊢
      refine ⟨_, rfl, _, rfl, _, _, rfl, rfl, _, rfl, a, _, rfl, SqL.of (sm1 _ _ (sm7 _ _ ha)), fun c2 hc2 => ?_⟩
      have sm2 := same_new hc2 (o := .lst (cutV (row.map V.str) (some ((i : Int) + 1)) none))
      have h2 : (upd H8 c2 (.lst (cutV (row.map V.str) (some ((i : Int) + 1)) none))) c2 = some (.lst ((row.drop (i + 1)).map V.str)) := by
        rw [upd_same, show ((i : Int) + 1) = ((i + 1 : Nat) : Int) by omega, cut_ge, List.map_drop]
      have h1' := sm2 _ _ h1
      generalize (upd H8 c2 (.lst (cutV (row.map V.str) (some ((i : Int) + 1)) none))) = H9 at sm2 h2 h1' ⊢
      refine ⟨c1, c2, _, _, rfl, rfl, h1', h2, by rw [List.length_map, List.length_map, List.length_take, List.length_drop]; exact sl2 (by omega), fun re hre => ?_⟩
      have sm3 := same_new hre (o := .lst ((row.take i).map V.str ++ (row.drop (i + 1)).map V.str))
      have h3 : (upd H9 re (.lst ((row.take i).map V.str ++ (row.drop (i + 1)).map V.str))) re = some (.lst ((row.take i ++ row.drop (i + 1)).map V.str)) := by rw [upd_same, List.map_append]
      have smR := sm1.trans (sm2.trans sm3)
      have sm07 := sm7.trans smR
      have hD10 := smR _ _ hD7
      have hP10 : Paired (RowN H (upd H9 re (.lst ((row.take i).map V.str ++ (row.drop (i + 1)).map V.str))) D) us ((List.range i).flatMap (bagAt rs row)) := Paired.mapP hP7 fun _ _ ⟨a1, a2, w, a3, a4, a5, a6⟩ => ⟨a1, a2, w, a3, a4, smR _ _ a5, smR _ _ a6⟩
      have hrest : (row.take i ++ row.drop (i + 1)).length ≤ 1000 := by rw [List.length_append, List.length_take, List.length_drop]; omega
      have hba := bagAt_at (rs := rs) hni
      generalize row.take i ++ row.drop (i + 1) = rest at h3 hrest hba
      generalize (upd H9 re (.lst ((row.take i).map V.str ++ (row.drop (i + 1)).map V.str))) = H10 at sm3 h3 sm07 hD10 hP10 ⊢
      clear smR h1' h2 h1 sm1 sm2 sm3 hc1 hc2 hre hP7 hD7 sm7
      have hsn := hsh.of n
      have hn := hin n (List.mem_of_getElem? hni)
      refine ⟨_, rfl, .inl ⟨rfl, _, SqL.of hD10⟩, _, rfl, g, _, _, rfl, sm07 _ _ hg, gfs_no _ _ _ (by decide +kernel) (by decide +kernel) (by decide +kernel), _, rfl, g, names, rs, n, rfl, G.same sm07, hn, by omega, fun p1 H2 nr => ?_⟩
      obtain ⟨hp1, sm2, vs, hvs, hpr⟩ := nr
      have hvl : vs.length ≤ 100 := by rw [paired_len hpr]; exact hsn.1
      have hre2 := sm2 _ _ h3
      have sm02 := sm07.trans sm2
      have hD2' := sm2 _ _ hD10
      refine ⟨p1, rfl, ⟨_, SqL.of hvs⟩, fun D2 hD2 => lc_list (K := K) (a := p1) (xs := vs.map V.ref) (fun i H' => Same H2 H' ∧ ∃ zs : List Addr, H' D2 = some (.lst (zs.map V.ref)) ∧ Paired (RowN H2 H' D2) zs (((rulesOf rs n).take i).map fun p => (p.1, ssort (p.2 ++ rest)))) ?_ ?_ ?_ ?_⟩
      · exact ⟨same_new hD2, [], upd_same, .nil⟩
      · rintro i H' _ ⟨sm, _⟩
        exact SqL.of (sm _ _ hvs)
      · rintro i2 x H' hi2 ⟨sm, ws, hv1, hv2⟩
        obtain ⟨u0, hui, rfl⟩ := map_at hi2
        obtain ⟨r, hr1, _, w0, _, hw1, hw2⟩ := paired_get hpr hui
        have hrl2 := hsn.2 r (List.mem_of_getElem? hr1)
        refine ⟨u0, _, rfl, SqT.of (sm _ _ hw1), rfl, _, _, rfl, _, _, rfl, rfl, rfl, tyes (iteT ?_)⟩
        refine ⟨_, rfl, _, rfl, _, rfl, w0, re, _, _, rfl, rfl, sm _ _ hw2, sm _ _ hre2, by rw [List.length_map, List.length_map]; exact sl2 (by omega), fun c hc => ?_⟩
        have smc := same_new hc (o := .lst (r.2.map V.str ++ rest.map V.str))
        have hcs : (upd H' c (.lst (r.2.map V.str ++ rest.map V.str))) c = some (.lst ((r.2 ++ rest).map V.str)) := by rw [upd_same, List.map_append]
        have ncD : c ≠ D2 := fun z => by rw [z, hv1] at hc; cases hc
        refine ⟨Str, PyData.str, c, _, r.2 ++ rest, rfl, SqL.of hcs, dpAll_strs _, alk_str, srt_str, fun _ _ => Nat.zero_le _, fun zs w hz1 hz2 hw => ?_⟩
        rw [srt_strs_out hz1 hz2]
        refine ⟨sl2 (by show 2 ≤ 1000000; decide), fun u hu3 => ?_⟩
        have smw := same_new hw (o := .lst ((ssort (r.2 ++ rest)).map V.str))
        have smu := same_new hu3 (o := .tup [.str r.1, .ref w])
        have smA := smc.trans (smw.trans smu)
        have nwD : w ≠ D2 := fun z => by rw [z, smc _ _ hv1] at hw; cases hw
        have nuD : u ≠ D2 := fun z => by rw [z, (smc.trans smw) _ _ hv1] at hu3; cases hu3
        have hwU := smu _ _ (upd_same : (upd (upd H' c (.lst (r.2.map V.str ++ rest.map V.str))) w (.lst ((ssort (r.2 ++ rest)).map V.str))) w = _)
        refine ⟨_, smA _ _ hv1, by rw [List.length_map, paired_len hv2, List.length_map, List.length_take]; exact sl1 (by omega), same_mut (sm.trans smA) hD2, ws ++ [u], by rw [upd_same, List.map_append]; rfl, ?_⟩
        rw [take_snoc hr1, List.map_append]
        refine paired_app (F := RowN H2 _ D2) ⟨sm.free ((smc.trans smw).free hu3), nuD, w, sm.free (smc.free hw), nwD, ?_, ?_⟩ (Paired.mapP hv2 fun t r ⟨a1, a2, w, a3, a4, a5, a6⟩ => ⟨a1, a2, w, a3, a4, ?_, ?_⟩)
        · rw [upd_ne nuD, upd_same]
        · rw [upd_ne nwD]; exact hwU
        · rw [upd_ne a2]; exact smA _ _ a5
        · rw [upd_ne a4]; exact smA _ _ a6
      rintro H3 ⟨sm3, zs, hz1, hz2⟩
      rw [List.length_map, paired_len hpr, List.take_length, ← hba] at hz2
      have hD3 := sm3 _ _ hD2'
      have hzl : zs.length ≤ 100 := by rw [paired_len hz2, hba, List.length_map]; exact hsn.1
      have hD0 : H2 D = some (.lst (us.map V.ref)) := hD2'
      refine ⟨D, D2, _, _, rfl, rfl, hD3, hz1, by rw [List.length_map, List.length_map]; exact sl2 (by omega), ?_⟩
      refine ⟨_, _, _, _, _, us ++ zs, rfl, same_mut (sm02.trans sm3) hD, by rw [upd_same, List.map_append], by rw [List.length_append]; omega, ?_⟩
      rw [flat_range_snoc]
      refine paired_append (F := RowN H _ D) (Paired.mapP hP10 fun _ _ ⟨a1, a2, w, a3, a4, a5, a6⟩ => ⟨a1, a2, w, a3, a4, ?_, ?_⟩) (Paired.mapP hz2 fun _ _ ⟨a1, a2, w, a3, a4, a5, a6⟩ => ⟨sm02.free a1, (ne_of_none hD0 a1).symm, w, sm02.free a3, (ne_of_none hD0 a3).symm, ?_, ?_⟩)
      · rw [upd_ne a2]; exact sm3 _ _ (sm2 _ _ a5)
      · rw [upd_ne a4]; exact sm3 _ _ (sm2 _ _ a6)
      · rw [upd_ne (ne_of_none hD0 a1).symm]; exact a5
      · rw [upd_ne (ne_of_none hD0 a3).symm]; exact a6
    · rintro σ' H1 ⟨x3, x4, x5, x6, x7, us, rfl, sm, hD1, hul, hP⟩
      rw [List.length_map] at hP hul
      have hPl := paired_len hP
      refine ⟨_, rfl, D, us, _, rfl, hD1, Paired.mapP hP fun _ _ ⟨_, _, w, _, _, a5, a6⟩ => ⟨w, a5, a6⟩, by rw [← hPl]; omega, fun p H4 us4 hp4 sm4 h4 hz => ?_⟩
      exact q p H4 (new_rows_of (D := D) hP sm4 (sm.trans sm4) (sm.free hp4) h4 hz)
/-- steps_of: of a row by the kind row, else of a bag -/
def stepsOf (kind : Str) (rs : List Rule) (one : List Str) : List Step := if kind = "row" then rowSteps rs one else bagSteps rs one
def sp_steps_of (C : Addr) : Sp := fun vs H Q _ => ∃ (g a : Addr) (kind : Str) (names : List Str) (rs : List Rule) (row : List Str), vs = [.ref g, .str kind, .ref a] ∧ GramAt C H g names rs ∧ H a = some (.lst (row.map V.str)) ∧ (∀ x ∈ row, x ∈ names) ∧ row.length ≤ 1000 ∧ ShortR rs ∧ ∀ p H', NewRows H H' p (stepsOf kind rs row) → Q (.ref p) H'
theorem ok_steps_of (T : Txt K mg A) : FnOk P w K mg base CX0 4 A.a_steps_of A.d_steps_of ["grammar", "kind", "one"] (sp_steps_of A.c_Grammar) := by
  have G_row_steps : FnOk P w K mg base CX0 3 A.a_row_steps A.d_row_steps ["grammar", "row"] (sp_steps A.c_Grammar rowSteps) := ok_row_steps T
  have G_bag_steps : FnOk P w K mg base CX0 3 A.a_bag_steps A.d_bag_steps ["grammar", "bag"] (sp_steps A.c_Grammar bagSteps) := ok_bag_steps T
  refine T.F_steps_of.ok sc_steps_of (fun vs H Q E h => ?_) (fun cdv A0 outer s0 H vs Q E hr h => ?_)
  · obtain ⟨_, _, _, _, _, _, rfl, _⟩ := h
    rfl
  · obtain ⟨g, a, kind, names, rs, row, rfl, G, ha, hin, hrl, hsh, q⟩ := h
    refine ⟨_, (pss_cons (ps_if (pt_cmpR op_eq (pv 1) pe_str (nomark _)) (pss_one (ps_ret (pe_call G_row_steps (hr.mono (by decide)) (by rfl) T.g_row_steps T.F_row_steps.kp T.b_row_steps .nil pass0 (pa_cons (pv 0) (pa_cons (pv 2) pa_nil))))) pss_nil)
 (pss_one (ps_ret (pe_call G_bag_steps (hr.mono (by decide)) (by rfl) T.g_bag_steps T.F_bag_steps.kp T.b_bag_steps .nil pass0 (pa_cons (pv 0) (pa_cons (pv 2) pa_nil)))))), ?_⟩
    refine ⟨_, rfl, rfl, _, rfl, iteB (fun hc => ?_) (fun hc => ?_)⟩
    · have e : kind = "row" := by
        have := of_decide_eq_true hc
        exact V.str.inj this
      refine ⟨_, rfl, _, rfl, g, a, names, rs, row, rfl, G, ha, hin, hrl, hsh, fun p H' nr => q p H' ?_⟩
      unfold stepsOf
      rw [if_pos e]
      exact nr
    · have e : ¬ kind = "row" := fun z => by
        have := of_decide_eq_false hc
        exact this (by rw [z])
      refine ⟨_, rfl, _, rfl, g, a, names, rs, row, rfl, G, ha, hin, hrl, hsh, fun p H' nr => q p H' ?_⟩
      unfold stepsOf
      rw [if_neg e]
      exact nr
end
end SG
namespace SG
open PySem PySem.Spec PyProof.Rows L2 LamX
section
variable {P : Program} {w : World} {K : PySem.W.Frag} {mg : Str → Option Value} {base : Heap} {A : Ad}
/-! ### outs, lessening rules, weighed -/
def kd (bag : Bool) : Str := if bag then "bag" else "row"
theorem kd_bag (bag : Bool) : decide (V.str (kd bag) = V.str "bag") = bag := by cases bag <;> decide +kernel
theorem kd_row (bag : Bool) : decide (V.str (kd bag) = V.str "row") = !bag := by cases bag <;> decide +kernel
theorem stepsOf_kd (bag : Bool) (rs : List Rule) (one : List Str) : stepsOf (kd bag) rs one = stK bag rs one := by
  unfold stepsOf stK
  cases bag with
  | true => rw [if_neg (by decide +kernel), if_pos rfl]
  | false => rw [if_pos (by decide +kernel), if_neg Bool.false_ne_true]
theorem BaseAt.same {H H' : Hp} (e : Same H H') {kvs : List (Key × V)} {kb : KB} (h : BaseAt H kvs kb) : BaseAt H' kvs kb := Paired.mapP h fun _ _ ⟨h1, a, h2, h3⟩ => ⟨h1, a, h2, e _ _ h3⟩
def sp_put_out : Sp := fun vs H Q _ => ∃ (bag : Bool) (b o : Addr) (kvs : List (Key × V)) (kb : KB) (ns : List Str), vs = [.str (kd bag), .ref b, .ref o] ∧ H b = some (.dK kvs) ∧ BaseAt H kvs kb ∧ (∀ m ∈ kb, m.2.length ≤ 12) ∧ H o = some (.lst (ns.map V.str)) ∧ ns.length ≤ 50000 ∧
  ∀ p H', Same H H' → H p = none → H' p = some (.lst ((outK bag kb ns).map V.str)) → Q (.ref p) H'
theorem ok_put_out (T : Txt K mg A) : FnOk P w K mg base CX0 1 A.a_put_out A.d_put_out ["kind", "base", "one"] sp_put_out := by
  refine T.F_put_out.ok sc_put_out (fun vs H Q E h => ?_) (fun cdv A0 outer s0 H vs Q E hr h => ?_)
  · obtain ⟨s, d, n, _, _, _, rfl, _⟩ := h
    rfl
  · obtain ⟨bag, b, o, kvs, kb, ns, rfl, hb, hB, h4, ho, hlen, q⟩ := h
    have hu := hu_of hr
    have hu64 := hu64_of hr
    refine ⟨_, (pss_cons (ps_set (i := 3) sc_put_out.nd rfl (Or.inl rfl) (pe_lst pa_nil))
 (pss_cons (ps_for PassesOwn.never rfl (pi_list (pv 2)) (pg_name (i := 4) sc_put_out.nd rfl (Or.inl rfl))
 (pss_one (ps_expr (pe_bm PySem.F.plainAttrs_list PySem.F.slot_list_extend PySem.F.type_list_extend mt_extend (pv 3) (pa_cons (pe_dget2 hu (pv 1) (pv 4) (pe_lst (pa_cons (pv 4) pa_nil)) ⟨rfl, rfl, rfl, rfl⟩) pa_nil)))))
 (pss_cons (ps_if (pt_cmpR op_eq (pv 0) pe_str (nomark _)) (pss_one (ps_ret (pe_callB (id := "sorted") (r := rSortedG K) (cr_sortedG hu64) (by rfl) T.sorted (by decide +kernel) (pa_cons (pv 3) pa_nil)))) pss_nil)
 (pss_one (ps_ret (pv 3)))))), ?_⟩
    refine ⟨Nat.zero_le _, fun p hp => ?_⟩
    refine ⟨_, rfl, o, rfl, ⟨_, SqL.of (same_new hp _ _ ho)⟩, for_list (K := K) (a := o) (xs := ns.map V.str) (fun i σ' H' => ∃ x4 : Option V, σ' = [some (.str (kd bag)), some (.ref b), some (.ref o), some (.ref p), x4] ∧ Same H H' ∧ H' p = some (.lst ((outs kb (ns.take i)).map V.str))) ?_ ?_ ?_ ?_⟩
    · exact ⟨none, rfl, same_new hp, upd_same⟩
    · rintro i σ' H' _ ⟨x4, rfl, sm, _⟩
      exact SqL.of (sm _ _ ho)
    · rintro i x σ' H1 hi ⟨x4, rfl, sm, hl⟩
      obtain ⟨n, hn, rfl⟩ := map_at hi
      have hlen1 : (outs kb (ns.take i)).length ≤ 600000 := by
        have := outs_lenC (c := 12) (by decide) h4 (ns.take i)
        have : (ns.take i).length ≤ ns.length := by rw [List.length_take]; exact Nat.min_le_right _ _
        omega
      have hmk : (mk kb n).length ≤ 12 := by
        rcases mk_cases kb n with ⟨_, e⟩ | ⟨m, hm, e⟩
        · rw [e]; exact (by decide : 1 ≤ 12)
        · rw [e]; exact h4 _ hm
      refine ⟨_, rfl, .inl ⟨rfl, _, SqL.of hl⟩, _, rfl, b, rfl, .inl ⟨kvs, .inl (sm _ _ hb)⟩, _, rfl, _, rfl, sl2 (by show 1 ≤ 1000000; decide), fun c hc => ?_⟩
      have sm2 : Same H (upd H1 c (.lst [V.str n])) := sm.trans (same_new hc)
      have npc : p ≠ c := ne_of_none hl hc
      have hl2 : (upd H1 c (.lst [V.str n])) p = some (.lst ((outs kb (ns.take i)).map V.str)) := same_new hc _ _ hl
      have done : ∀ (u : Addr) (ms : List Str), (upd H1 c (.lst [V.str n])) u = some (.lst (ms.map V.str)) → mk kb n = ms → rExtend (.ref p) [.ref u] (upd H1 c (.lst [V.str n])) fun x H2 => ∃ x4 : Option V, [some (V.str (kd bag)), some (V.ref b), some (V.ref o), some (V.ref p), some (V.str n)] = [some (.str (kd bag)), some (.ref b), some (.ref o), some (.ref p), x4] ∧ Same H H2 ∧ H2 p = some (.lst ((outs kb (ns.take (i + 1))).map V.str)) := by
        intro u ms hu2 hm
        refine ⟨p, u, _, _, rfl, rfl, hl2, hu2, ?_, _, rfl, same_mut sm2 hp, ?_⟩
        · rw [List.length_map, List.length_map, ← hm]; exact sl2 (by omega)
        · rw [upd_same, take_snoc hn, outs_snoc, hm, List.map_append]
      rcases baseAt_val hB n with ⟨e1, e2⟩ | ⟨a, ms, e1, e2, e3, e4⟩
      · refine ⟨none, .inl ⟨kvs, Sum.inr n, .inl (sm2 _ _ hb), rfl, e1.symm⟩, ?_⟩
        exact done c [n] upd_same (by unfold mk; rw [e2]; rfl)
      · refine ⟨some (.ref a), .inl ⟨kvs, Sum.inr n, .inl (sm2 _ _ hb), rfl, e1.symm⟩, ?_⟩
        exact done a ms (sm2 _ _ e2) (by unfold mk; rw [e3]; rfl)
    · rintro σ' H1 ⟨x4, rfl, sm, hl⟩
      rw [List.length_map, List.take_length] at hl
      refine ⟨_, rfl, rfl, _, rfl, ?_⟩
      rw [kd_bag]
      cases bag with
      | true =>
        refine iteT ⟨_, rfl, Str, PyData.str, p, (outs kb ns).map V.str, outs kb ns, rfl, SqL.of hl, dpAll_strs _, alk_str, srt_str, fun a _ => by rw [PyData.depth]; decide, fun zs p2 hpm hzp hp2 => ?_⟩
        refine q p2 _ (sm.trans (same_new hp2)) (sm.free hp2) ?_
        rw [upd_same, srt_strs_out hpm hzp]
        rfl
      | false =>
        refine iteF ⟨_, rfl, q p H1 sm hp ?_⟩
        unfold outK
        rw [if_neg Bool.false_ne_true]
        exact hl
/-- a dict of the norms of names -/
def KnAt (H : Hp) (d : Addr) (names : List Str) (wt : Str → Nat) : Prop := ∃ kvs, H d = some (.dK kvs) ∧ ∀ x ∈ names, valV kvs (Sum.inr x : Key) = some (.int (wt x))
theorem KnAt.same {H H' : Hp} {d : Addr} {names : List Str} {wt : Str → Nat} (h : KnAt H d names wt) (e : Same H H') : KnAt H' d names wt := by
  obtain ⟨kvs, h1, h2⟩ := h
  exact ⟨kvs, e _ _ h1, h2⟩
theorem addW_all (wt : Str → Nat) : ∀ row : List Str, addW (fun x => some (wt x)) row = some (wsum wt row)
  | [] => rfl
  | n :: t => by rw [addW, addW_all wt t, wsum_cons]
theorem added_int {wt : Str → Nat} {row : List Str} : optV (addW (fun x => some (wt x)) row) = V.int (wsum wt row) := by rw [addW_all]; rfl
def sp_addedW : Sp := fun vs H Q _ => ∃ (d a : Addr) (names : List Str) (wt : Str → Nat) (row : List Str), vs = [.ref d, .ref a] ∧ KnAt H d names wt ∧ (∀ x ∈ row, x ∈ names) ∧ H a = some (.lst (row.map V.str)) ∧ row.length ≤ 1000000 ∧ ∀ H', Same H H' → Q (.int (wsum wt row)) H'
theorem ok_added_upW (T : Txt K mg A) : FnOk P w K mg base CX0 1 A.a_added_up A.d_added_up ["norms", "row"] sp_addedW :=
  (ok_added_up T).imp fun vs H Q E ⟨d, a, names, wt, row, e, ⟨kvs, h1, h2⟩, hin, ha, hl, q⟩ => ⟨d, a, kvs, fun x => some (wt x), row, e, h1, fun x hx => h2 x (hin x hx), ha, hl, fun H' sm => by rw [added_int]; exact q H' sm⟩
theorem int_dec {a b : Nat} : decide (V.int (a : Int) = V.int ((b : Int) - 1)) = decide (a + 1 = b) := by
  refine decide_eq_decide.mpr ⟨fun h => ?_, fun h => ?_⟩
  · have := V.int.inj h
    omega
  · exact congrArg V.int (by omega)
def sp_lessening (C : Addr) : Sp := fun vs H Q _ => ∃ (g d : Addr) (names : List Str) (rs : List Rule) (wt : Str → Nat) (n : Str), vs = [.ref g, .ref d, .str n] ∧ GramAt C H g names rs ∧ KnAt H d names wt ∧ n ∈ names ∧ (∀ r ∈ rs, r.1 ∈ names ∧ ∀ x ∈ r.2.2, x ∈ names) ∧ ShortR rs ∧ ∀ p H', NewRows H H' p (lessR rs wt n) → Q (.ref p) H'
theorem filter_take {α : Type} {f : α → Bool} {xs : List α} {i : Nat} {x : α} (h : xs[i]? = some x) : (xs.take (i + 1)).filter f = (xs.take i).filter f ++ (if f x = true then [x] else []) := by
  rw [take_snoc h, List.filter_append]
  cases c : f x with
  | true => rw [List.filter_cons_of_pos c, if_pos rfl]; rfl
  | false => rw [List.filter_cons_of_neg (by rw [c]; exact Bool.false_ne_true), if_neg Bool.false_ne_true]; rfl
theorem ok_lessening (T : Txt K mg A) : FnOk P w K mg base CX0 2 A.a_lessening A.d_lessening ["grammar", "known", "name"] (sp_lessening A.c_Grammar) := by
  have G_Grammar_rules_of : FnOk P w K mg base CX0 1 A.a_Grammar_rules_of A.d_Grammar_rules_of ["self", "name"] (sp_G_rules_of A.c_Grammar) := ok_Grammar_rules_of T
  have G_added_up : FnOk P w K mg base CX0 1 A.a_added_up A.d_added_up ["norms", "row"] sp_addedW := ok_added_upW T
  refine T.F_lessening.ok sc_lessening (fun vs H Q E h => ?_) (fun cdv A0 outer s0 H vs Q E hr h => ?_)
  · obtain ⟨_, _, _, _, _, _, rfl, _⟩ := h
    rfl
  · obtain ⟨g, d, names, rs, wt, n, rfl, G, hd, hn, hin, hsh, q⟩ := h
    have hu := hu_of hr
    obtain ⟨dx, kn, st, od, hg⟩ := G.ins
    have hsn := hsh.of n
    refine ⟨_, (pss_one (ps_ret (pe_lc (own := [("rule", 3)]) (g := gName 3) (by rfl) sc_lessening.nd (pi_list (pe_meth (pv 0) T.cl_Grammar T.m_Grammar_rules_of G_Grammar_rules_of (hr.mono (by decide)) T.b_Grammar_rules_of .nil pass0 (pa_cons (pv 2) pa_nil))) (blkOk_by (own := [("rule", 3)]) (N := ["grammar", "known", "name", "rule"]) (sc := defScope s_lessening) (by decide +kernel)) (fun _ _ _ _ _ => (pg_name (i := 3) sc_lessening.nd rfl (Or.inl rfl))) (fun _ _ _ _ _ => pts_one (pt_cmpR op_eq (pe_call G_added_up (hr.mono (by decide)) (by rfl) T.g_added_up T.F_added_up.kp T.b_added_up .nil pass0 (pa_cons (pv 1) (pa_cons (pe_ix (r := rIxT K) ix_tup (pv 3) pe_int (fun _ _ => rfl)) pa_nil))) (pe_op op_sub (pe_dget hu (pv 1) (pv 2) (fun _ _ => rfl)) pe_int) (nomark _))) (fun _ _ _ _ _ => (pv 3))))), ?_⟩
    refine ⟨_, rfl, g, _, _, rfl, hg, gfs_no _ _ _ (by decide +kernel) (by decide +kernel) (by decide +kernel), _, rfl, g, names, rs, n, rfl, G, hn, by omega, fun p1 H1 nr => ?_⟩
    obtain ⟨hp1, sm1, us, hus, hpr⟩ := nr
    have hul : us.length ≤ 100 := by rw [paired_len hpr]; exact hsn.1
    refine ⟨p1, rfl, ⟨_, SqL.of hus⟩, fun D hD => lc_list (K := K) (a := p1) (xs := us.map V.ref) (fun i H' => Same H1 H' ∧ ∃ vs : List Addr, H' D = some (.lst (vs.map V.ref)) ∧ Paired (fun t (r : Str × List Str) => H t = none ∧ ∃ w, H w = none ∧ H1 t = some (.tup [.str r.1, .ref w]) ∧ H1 w = some (.lst (r.2.map V.str))) vs (((rulesOf rs n).take i).filter fun p => decide (wsum wt p.2 + 1 = wt n))) ?_ ?_ ?_ ?_⟩
    · exact ⟨same_new hD, [], upd_same, .nil⟩
    · rintro i H' _ ⟨sm, _⟩
      exact SqL.of (sm _ _ hus)
    · rintro i x H' hi ⟨sm, vs, hv1, hv2⟩
      obtain ⟨u0, hui, rfl⟩ := map_at hi
      obtain ⟨r, hr1, h0, w0, h0w, hw1, hw2⟩ := paired_get hpr hui
      have hrr : (n, r.1, r.2) ∈ rs := mem_rulesOf.mp (List.mem_of_getElem? hr1)
      have hrl2 := hsn.2 r (List.mem_of_getElem? hr1)
      refine ⟨rfl, ?_⟩
      obtain ⟨kvs, hk1, hk2⟩ := hd
      refine ⟨_, rfl, _, rfl, _, _, _, _, rfl, rfl, SqT.of (sm _ _ hw1), atI_nat (j := 1) rfl, d, w0, names, wt, r.2, rfl, ⟨kvs, (sm1.trans sm) _ _ hk1, hk2⟩, (hin _ hrr).2, sm _ _ hw2, by omega, fun H2 sm2 => ?_⟩
      refine ⟨_, rfl, _, rfl, d, _, rfl, .inl ⟨kvs, Sum.inr n, .inl ((sm1.trans (sm.trans sm2)) _ _ hk1), rfl, (hk2 n hn).symm⟩, _, _, rfl, rfl, rfl, _, rfl, ?_⟩
      rw [int_dec]
      have hlen : vs.length ≤ 100 := by
        have := paired_len hv2
        have := List.length_filter_le (fun p : Str × List Str => decide (wsum wt p.2 + 1 = wt n)) ((rulesOf rs n).take i)
        rw [List.length_take] at this
        omega
      refine iteB (fun hc => ?_) (fun hc => ?_)
      · refine ⟨_, rfl, _, sm2 _ _ hv1, by rw [List.length_map]; exact sl1 (by omega), same_mut (sm.trans sm2) hD, vs ++ [u0], by rw [upd_same, List.map_append]; rfl, ?_⟩
        rw [filter_take hr1, if_pos hc]
        exact paired_app (F := fun t (r : Str × List Str) => H t = none ∧ ∃ w, H w = none ∧ H1 t = some (.tup [.str r.1, .ref w]) ∧ H1 w = some (.lst (r.2.map V.str))) ⟨h0, w0, h0w, hw1, hw2⟩ hv2
      · refine ⟨sm.trans sm2, vs, sm2 _ _ hv1, ?_⟩
        rw [filter_take hr1, if_neg (by rw [hc]; exact Bool.false_ne_true), List.append_nil]
        exact hv2
    rintro H2 ⟨sm2, vs, hv1, hv2⟩
    rw [List.length_map, paired_len hpr, List.take_length] at hv2
    exact q D H2 ⟨sm1.free hD, sm1.trans sm2, vs, hv1, Paired.mapP hv2 fun t r ⟨a1, w, a2, a3, a4⟩ => ⟨a1, w, a2, sm2 _ _ a3, sm2 _ _ a4⟩⟩
end
end SG
namespace SG
open PySem PySem.Spec PyProof.Rows L2 LamX
section
variable {P : Program} {w : World} {K : PySem.W.Frag} {mg : Str → Option Value} {base : Heap} {A : Ad}
def sp_outs_of : Sp := fun vs H Q _ => ∃ (bag : Bool) (b o : Addr) (kvs : List (Key × V)) (kb : KB) (ps : List Step), vs = [.str (kd bag), .ref b, .ref o] ∧ H b = some (.dK kvs) ∧ BaseAt H kvs kb ∧ (∀ m ∈ kb, m.2.length ≤ 12) ∧ ListAt H o ps ∧ ps.length ≤ 500000 ∧ (∀ p ∈ ps, p.2.length ≤ 50000) ∧
  ∀ p H', H p = none → Same H H' → ListAt H' p (outsOf bag kb ps) → Q (.ref p) H'
theorem ok_outs_of (T : Txt K mg A) : FnOk P w K mg base CX0 2 A.a_outs_of A.d_outs_of ["kind", "base", "steps"] sp_outs_of := by
  have G_put_out : FnOk P w K mg base CX0 1 A.a_put_out A.d_put_out ["kind", "base", "one"] sp_put_out := ok_put_out T
  have G_each_once : FnOk P w K mg base CX0 1 A.a_each_once A.d_each_once ["steps"] sp_each_once := ok_each_once T
  refine T.F_outs_of.ok sc_outs_of (fun vs H Q E h => ?_) (fun cdv A0 outer s0 H vs Q E hr h => ?_)
  · obtain ⟨_, _, _, _, _, _, rfl, _⟩ := h
    rfl
  · obtain ⟨bag, b, o, kvs, kb, ps, rfl, hb, hB, h12, ⟨ts, hts, htp⟩, hpl, hps, q⟩ := h
    have hu64 := hu64_of hr
    have htl := paired_len htp
    refine ⟨_, (pss_one (ps_ret (pe_call G_each_once (hr.mono (by decide)) (by rfl) T.g_each_once T.F_each_once.kp T.b_each_once .nil pass0 (pa_cons (pe_lc (own := [("letter", 3), ("result", 4)]) (g := gTup K 2 (gCons (gName 3) (gCons (gName 4) gNil))) (by rfl) sc_outs_of.nd (pi_list (pv 2)) (blkOk_by (own := [("letter", 3), ("result", 4)]) (N := ["kind", "base", "steps", "letter", "result"]) (sc := defScope s_outs_of) (by decide +kernel)) (fun _ _ _ _ _ => (pg_tup (by rfl) (pgs_cons (pg_name (i := 3) sc_outs_of.nd rfl (Or.inl rfl)) (pgs_cons (pg_name (i := 4) sc_outs_of.nd rfl (Or.inl rfl)) pgs_nil)))) (fun _ _ _ _ _ => pts_nil) (fun _ _ _ _ _ => (pe_tup (pa_cons (pv 3) (pa_cons (pe_call G_put_out (hr.mono (by decide)) (by rfl) T.g_put_out T.F_put_out.kp T.b_put_out .nil pass0 (pa_cons (pv 0) (pa_cons (pv 1) (pa_cons (pv 4) pa_nil)))) pa_nil))))) pa_nil)))), ?_⟩
    refine ⟨_, rfl, o, rfl, ⟨_, SqL.of hts⟩, fun D hD => lc_list (K := K) (a := o) (xs := ts.map V.ref) (fun i H' => Same H H' ∧ ∃ us : List Addr, H' D = some (.lst (us.map V.ref)) ∧ Paired (fun t r => t ≠ D ∧ ∃ w, w ≠ D ∧ H' t = some (.tup [.str r.1, .ref w]) ∧ H' w = some (.lst (r.2.map V.str))) us ((ps.take i).map fun s => ((s.1, outK bag kb s.2) : Step))) ?_ ?_ ?_ ?_⟩
    · exact ⟨same_new hD, [], upd_same, .nil⟩
    · rintro i H' _ ⟨sm, _⟩
      exact SqL.of (sm _ _ hts)
    · rintro i x H1 hi ⟨sm, us, hu1, hu2⟩
      obtain ⟨t, ht, rfl⟩ := map_at hi
      obtain ⟨r, hr1, w0, hw1, hw2⟩ := paired_get htp ht
      have hrl := hps r (List.mem_of_getElem? hr1)
      refine ⟨t, _, rfl, SqT.of (sm _ _ hw1), rfl, _, _, rfl, _, _, rfl, rfl, rfl, tyes (iteT ?_)⟩
      refine ⟨_, rfl, _, rfl, _, rfl, _, rfl, bag, b, w0, kvs, kb, r.2, rfl, sm _ _ hb, hB.same sm, h12, sm _ _ hw2, by omega, fun p1 H2 sm2 hp1 h2 => ⟨sl2 (by show 2 ≤ 1000000; decide), fun u hu => ?_⟩⟩
      have smu := same_new hu (o := .tup [.str r.1, .ref p1])
      have hDN : H2 D = some (.lst (us.map V.ref)) := sm2 _ _ hu1
      have n1 : p1 ≠ D := fun z => by rw [z, hu1] at hp1; cases hp1
      have n2 : u ≠ D := fun z => by rw [z, hDN] at hu; cases hu
      refine ⟨_, smu _ _ hDN, by rw [List.length_map, paired_len hu2, List.length_map, List.length_take]; exact sl1 (by omega), same_mut (sm.trans (sm2.trans smu)) hD, us ++ [u], by rw [upd_same, List.map_append]; rfl, ?_⟩
      rw [take_snoc hr1, List.map_append]
      refine paired_app (F := fun t r => t ≠ D ∧ ∃ w, w ≠ D ∧ (upd (upd H2 u (.tup [.str _, .ref p1])) D _) t = some (.tup [.str r.1, .ref w]) ∧ (upd (upd H2 u (.tup [.str _, .ref p1])) D _) w = some (.lst (r.2.map V.str))) ⟨n2, p1, n1, by rw [upd_ne n2, upd_same], by rw [upd_ne n1]; exact smu _ _ h2⟩ (Paired.mapP hu2 fun t r ⟨a1, w, a2, a3, a4⟩ => ⟨a1, w, a2, ?_, ?_⟩)
      · rw [upd_ne a1]; exact smu _ _ (sm2 _ _ a3)
      · rw [upd_ne a2]; exact smu _ _ (sm2 _ _ a4)
    rintro H1 ⟨sm, us, hu1, hu2⟩
    rw [List.length_map, htl, List.take_length] at hu2
    refine ⟨D, us, _, rfl, hu1, Paired.mapP hu2 fun t r ⟨_, w, _, a, b⟩ => ⟨w, a, b⟩, by rw [List.length_map]; omega, fun p H2 zs hp sm2 h2 hz => ?_⟩
    exact q p H2 (sm.free hp) (sm.trans sm2) ⟨zs, h2, Paired.mapP hz fun t r h => (paired_of_zip (F := RuleAt H2) (Paired.mapP hu2 fun t r ⟨_, w, _, a, b⟩ => ⟨w, sm2 _ _ a, sm2 _ _ b⟩) h)⟩
def RowsAt (H : Hp) (l : Addr) (rows : List (List Str)) : Prop := ∃ ts : List Addr, H l = some (.lst (ts.map V.ref)) ∧ Paired (fun t (r : List Str) => H t = some (.lst (r.map V.str))) ts rows
theorem RowsAt.same {H H' : Hp} {l : Addr} {rows : List (List Str)} (h : RowsAt H l rows) (e : Same H H') : RowsAt H' l rows := by
  obtain ⟨ts, h1, h2⟩ := h
  exact ⟨ts, e _ _ h1, Paired.mapP h2 fun _ _ h => e _ _ h⟩
def capK (bag : Bool) : Nat := if bag then 16 else 24
def sp_weighed2 (C : Addr) : Sp := fun vs H Q _ => ∃ (bag : Bool) (g ra : Addr) (names : List Str) (rs : List Rule) (wt : Str → Nat) (rows : List (List Str)), vs = [.ref g, .str (kd bag), .ref ra] ∧ GramAt C H g names rs ∧ GrW names rs wt ∧ RowsAt H ra rows ∧ rows.length ≤ 1000 ∧ (∀ r ∈ rows, (∀ x ∈ r, x ∈ names) ∧ r.length ≤ 1000000 ∧ wsum wt r ≤ capK bag) ∧
  ∀ p H', H p = none → Same H H' → H' p = some (.dK (kvsW names (normW rs))) → Q (.ref p) H'
theorem any_none {names : List Str} {rs : List Rule} {wt : Str → Nat} (h : ∀ n ∈ names, normW rs n = some (wt n)) : (((kvsW names (normW rs)).map (·.2)).any fun z => PyData.eqv (scD z) (scD .non)) = false := by
  rw [kvsW_snd h, List.any_map, List.any_map]
  rw [List.any_eq_false]
  intro n hn
  show ¬ PyData.eqv (PyData.int (wt n)) PyData.none = true
  rw [show (PyData.int (wt n)).eqv .none = false from by rw [PyData.eqv]]
  exact Bool.false_ne_true
theorem KnAt.of {H : Hp} {d : Addr} {names : List Str} {rs : List Rule} {wt : Str → Nat} (g : GrW names rs wt) (h : H d = some (.dK (kvsW names (normW rs)))) : KnAt H d names wt := ⟨_, h, fun x hx => kvsW_int g.fin hx⟩
theorem ok_weighed (T : Txt K mg A) : FnOk P w K mg base CX0 3 A.a_weighed A.d_weighed ["grammar", "kind", "rows"] (sp_weighed2 A.c_Grammar) := by
  have G_look_at_names : FnOk P w K mg base CX0 2 A.a_look_at_names A.d_look_at_names ["grammar", "row"] (sp_look A.c_Grammar) := ok_look_at_names T
  have G_norms : FnOk P w K mg base CX0 2 A.a_norms A.d_norms ["grammar"] (sp_norms A.c_Grammar) := ok_norms T
  have G_added_up : FnOk P w K mg base CX0 1 A.a_added_up A.d_added_up ["norms", "row"] sp_addedW := ok_added_upW T
  refine T.F_weighed.ok sc_weighed (fun vs H Q E h => ?_) (fun cdv A0 outer s0 H vs Q E hr h => ?_)
  · obtain ⟨_, _, _, _, _, _, _, rfl, _⟩ := h
    rfl
  · obtain ⟨bag, g, ra, names, rs, wt, rows, rfl, G, gw, ⟨ts, hts, htp⟩, hrl, hrows, q⟩ := h
    have hu64 := hu64_of hr
    have htl := paired_len htp
    refine ⟨_, (pss_cons (ps_for PassesOwn.never rfl (pi_list (pv 2)) (pg_name (i := 3) sc_weighed.nd rfl (Or.inl rfl))
 (pss_one (ps_expr (pe_call G_look_at_names (hr.mono (by decide)) (by rfl) T.g_look_at_names T.F_look_at_names.kp T.b_look_at_names .nil pass0 (pa_cons (pv 0) (pa_cons (pv 3) pa_nil))))))
 (pss_cons (ps_set (i := 4) sc_weighed.nd rfl (Or.inr rfl) (pe_call G_norms (hr.mono (by decide)) (by rfl) T.g_norms T.F_norms.kp T.b_norms .nil pass0 (pa_cons (pv 0) pa_nil)))
 (pss_cons (ps_if (pt_cmpR (r := rInV) (op_inV hu64) pe_non (pe_vals (pv 4)) (by rfl)) (pss_one ps_never) pss_nil)
 (pss_cons (ps_set (i := 5) sc_weighed.nd rfl (Or.inl rfl) (pe_glob (v := .int 16) (by rfl) T.c_MOST_BAG_NORM.choose_spec ⟨_, rfl⟩))
 (Evl.pss_cut (ps_if (pt_cmpR op_eq (pv 1) pe_str (nomark _)) (pss_one (ps_set (i := 5) sc_weighed.nd rfl (Or.inl rfl) (pe_glob (v := .int 24) (by rfl) T.c_MOST_ROW_NORM.choose_spec ⟨_, rfl⟩))) pss_nil)
 (pss_cons (ps_if (PW.pt (pw_or (pt_cmpR op_gt (pe_callB (id := "max") (r := rMaxV) (cr_maxV rfl) (by rfl) T.max (by decide +kernel) (pa_cons (pe_vals (pv 4)) pa_nil)) (pe_glob (v := .int 12) (by rfl) T.c_MOST_NORM.choose_spec ⟨_, rfl⟩) (nomark _)) (pw_or1 (pt_cmpR op_gt (pe_maxDef (by rfl) T.max rfl (pe_lc (own := [("row", 3)]) (g := gName 3) (by rfl) sc_weighed.nd (pi_list (pv 2)) (blkOk_by (own := [("row", 3)]) (N := ["grammar", "kind", "rows", "row", "found", "most"]) (sc := defScope s_weighed) (by decide +kernel)) (fun _ _ _ _ _ => (pg_name (i := 3) sc_weighed.nd rfl (Or.inl rfl))) (fun _ _ _ _ _ => pts_nil) (fun _ _ _ _ _ => (pe_call G_added_up (hr.mono (by decide)) (by rfl) T.g_added_up T.F_added_up.kp T.b_added_up .nil pass0 (pa_cons (pv 4) (pa_cons (pv 3) pa_nil)))))) (pv 5) (nomark _))))) (pss_one ps_never) pss_nil)
 (pss_one (ps_ret (pv 4))))))))), ?_⟩
    refine ⟨_, rfl, ra, rfl, ⟨_, SqL.of hts⟩, for_list (K := K) (a := ra) (xs := ts.map V.ref) (fun i σ' H' => ∃ x3 : Option V, σ' = [some (.ref g), some (.str (kd bag)), some (.ref ra), x3, none, none] ∧ H' = H) ?_ ?_ ?_ ?_⟩
    · exact ⟨_, rfl, rfl⟩
    · rintro i σ' H' _ ⟨_, rfl, rfl⟩
      exact SqL.of hts
    · rintro i x σ' H' hi ⟨_, rfl, rfl⟩
      obtain ⟨t, ht, rfl⟩ := map_at hi
      obtain ⟨r, hr1, hw⟩ := paired_get htp ht
      exact ⟨_, rfl, _, rfl, g, t, names, rs, r, rfl, G, hw, (hrows r (List.mem_of_getElem? hr1)).1, _, rfl, rfl⟩
    rintro σ' H' ⟨x3, rfl, rfl⟩
    refine ⟨_, rfl, g, names, rs, rfl, G, gw.nd, gw.le, gw.rin, gw.sh, fun d H1 hd0 sm1 hd1 => ?_⟩
    refine ⟨_, rfl, d, _, rfl, hd1, fun v hv => ?_⟩
    have smv := same_new hv (o := viewO "dict_values" v d)
    refine ⟨v, d, _, rfl, .inr rfl, upd_same, smv _ _ hd1, fun p hp => ?_, _, rfl, ?_⟩
    · have : p.2 ∈ (kvsW names (normW rs)).map (·.2) := List.mem_map_of_mem hp
      rw [kvsW_snd gw.fin] at this
      obtain ⟨k, _, e⟩ := List.mem_map.mp this
      exact .inl ⟨k, e.symm⟩
    rw [any_none gw.fin]
    refine iteF ?_
    generalize upd H1 v (viewO "dict_values" v d) = H2 at smv
    have sm2 := sm1.trans smv
    have hd2 := smv _ _ hd1
    refine ⟨fun σ' H' => σ' = [some (.ref g), some (.str (kd bag)), some (.ref ra), x3, some (.ref d), some (.int (capK bag))] ∧ H' = H2, ?_, ?_⟩
    · refine ⟨_, rfl, rfl, _, rfl, ?_⟩
      rw [kd_row]
      cases bag with
      | true => exact iteF ⟨rfl, rfl⟩
      | false => exact iteT ⟨rfl, rfl⟩
    rintro σ' H3 ⟨rfl, rfl⟩
    refine ⟨_, rfl, d, _, rfl, hd2, fun v2 hv2 => ?_⟩
    have smv2 := same_new hv2 (o := viewO "dict_values" v2 d)
    refine ⟨v2, d, _, names.map fun n => (wt n : Int), rfl, upd_same, smv2 _ _ hd2, kvsW_snd gw.fin, by rw [List.length_map]; exact List.length_pos_iff.mpr gw.ne, fun m hm hle => ?_⟩
    obtain ⟨n0, hn0, rfl⟩ := List.mem_map.mp hm
    have hw12 := gw.w12 n0 hn0
    refine ⟨_, _, rfl, rfl, _, rfl, ?_⟩
    rw [show decide ((12 : Int) < (wt n0 : Int)) = false from decide_eq_false (by omega)]
    refine iteF ?_
    generalize upd H3 v2 (viewO "dict_values" v2 d) = H4 at smv2 ⊢
    have sm4 := sm2.trans smv2
    have hd4 := smv2 _ _ hd2
    refine ⟨_, rfl, ra, rfl, ⟨_, SqL.of (sm4 _ _ hts)⟩, fun D hD => lc_scal (K := K) (ys := (rows.map fun r => (wsum wt r : Int)).map V.int) (SqL.of (sm4 _ _ hts)) hD (by rw [List.length_map, List.length_map, List.length_map, htl]) (by rw [List.length_map, htl]; omega) (fun _ => rfl) (fun i x y H' Q' g1 g2 sm k => ?_) (fun H5 sm5 hl5 => ?_)⟩
    · obtain ⟨t, ht, rfl⟩ := map_at g1
      obtain ⟨r, hr1, hw⟩ := paired_get htp ht
      obtain ⟨r1, r2, r3⟩ := hrows r (List.mem_of_getElem? hr1)
      have ey : y = V.int (wsum wt r) := by
        rw [List.getElem?_map, List.getElem?_map, hr1] at g2
        exact (Option.some.inj g2).symm
      subst ey
      exact ⟨_, rfl, _, rfl, d, t, names, wt, r, rfl, (KnAt.of gw hd4).same sm, r1, (sm4.trans sm) _ _ hw, r2, fun H6 sm6 => k H6 sm6⟩
    refine ⟨D, _, rfl, SqL.of hl5, fun m hm => ?_⟩
    have hmc : m ≤ (capK bag : Int) := by
      rcases hm with ⟨_, rfl⟩ | ⟨hm, _⟩
      · exact Int.natCast_nonneg _
      · obtain ⟨r, hr1, rfl⟩ := List.mem_map.mp hm
        exact Int.ofNat_le.mpr (hrows r hr1).2.2
    refine ⟨_, rfl, _, _, rfl, rfl, _, rfl, ?_⟩
    rw [show decide ((capK bag : Int) < m) = false from decide_eq_false (by omega)]
    refine iteF ?_
    exact ⟨_, rfl, q d H5 (hd0 : H' d = none) (sm4.trans sm5) (sm5 _ _ hd4)⟩
end
end SG
namespace SG
open PySem PySem.Spec PyProof.Rows L2 LamX
section
variable {P : Program} {w : World} {K : PySem.W.Frag} {mg : Str → Option Value} {base : Heap} {A : Ad}
theorem noSl_name {x : Str} {p : Pos} : NoSl (.Name x p) := fun _ _ => rfl
theorem KnAt.ext {H H' : Hp} {d : Addr} {names : List Str} {wt : Str → Nat} (h : KnAt H d names wt) (e : ExtN H H') : KnAt H' d names wt := by
  obtain ⟨kvs, h1, h2⟩ := h
  exact ⟨kvs, e.dk h1, h2⟩
theorem BaseAt.ext {H H' : Hp} (e : ExtN H H') {kvs : List (Key × V)} {kb : KB} (h : BaseAt H kvs kb) : BaseAt H' kvs kb := Paired.mapP h fun _ _ ⟨h1, a, h2, h3⟩ => ⟨h1, a, h2, e.lst h3⟩
def sp_by_norms (T : List (Addr × Str)) (C : Addr) : Sp := fun vs H Q _ => ∃ (g d : Addr) (names : List Str) (rs : List Rule) (wt : Str → Nat), vs = [.ref g, .ref d] ∧ Tabs T H ∧ GramAt C H g names rs ∧ KnAt H d names wt ∧ ∀ p H', ExtN H H' → Tabs T H' → FreeN H p → H' p = some (.lst ((ordW names wt).map V.str)) → Q (.ref p) H'
theorem ok_by_norms (T : Txt K mg A) (TB : TabB base mg A.k_lam A.p_lam) : FnOk P w K mg base CX0 4 A.a_by_norms A.d_by_norms ["grammar", "known"] (sp_by_norms (tabT A) A.c_Grammar) := by
  have G_Grammar_names : FnOk P w K mg base CX0 1 A.a_Grammar_names A.d_Grammar_names ["self"] (sp_G_names A.c_Grammar) := ok_Grammar_names T
  refine fun_okC T.F_by_norms sc_by_norms (fun vs H Q E h => ?_) (fun cdv hc A0 outer s0 H vs Q E hr h => ?_)
  · obtain ⟨_, _, _, _, _, rfl, _⟩ := h
    rfl
  · obtain ⟨g, d, names, rs, wt, rfl, hT, G, ⟨kvs, hd1, hd2⟩, q⟩ := h
    obtain ⟨dx, kn, st, od, hg⟩ := G.ins
    refine ⟨_, (pss_one (ps_ret (pe_sortKeyD (T := tabT A) (x := "name") (y := "known") (i := 1) (by rfl) T.sorted (pe_meth0 (pv 0) T.cl_Grammar T.m_Grammar_names G_Grammar_names (hr.mono (by decide)) T.b_Grammar_names .nil pass0) TB (hc.symm.trans T.code_lam) List.mem_cons_self (fun p hp _ => by rw [List.mem_singleton.mp hp]; rfl) (hr.mono (by decide)) ⟨rfl, rfl, rfl, by decide +kernel, by decide +kernel, by decide +kernel, by decide +kernel, .inl (show (defScope s_by_norms).names.lookup ("known" : Str) = some NameKind.cell by decide +kernel)⟩ rfl rfl (fun _ _ _ _ _ _ => rfl) noSl_name (by decide +kernel) (by decide +kernel) (by decide +kernel)))), ?_⟩
    refine ⟨_, rfl, g, _, _, rfl, hg, gfs_no _ _ _ (by decide +kernel) (by decide +kernel) (by decide +kernel), g, names, rs, rfl, G, fun p H1 hp sm h1 => ?_⟩
    refine ⟨tabs_same hT sm, p, d, names, kvs, fun n => (wt n : Int), rfl, SqL.of h1, rfl, sm _ _ hd1, hd2, fun H2 q2 eN T2 hq2 => ?_⟩
    have sm2 := same_new hq2 (o := .lst ((ordW names wt).map V.str))
    exact q q2 _ (((extN_same sm).trans eN).same sm2) (tabs_same T2 sm2) (((extN_same sm).trans eN).fr hq2) upd_same
theorem flat_rep (k : Nat) (h : Str) : (List.replicate k [V.str h]).flatten = (List.replicate k h).map V.str := by
  induction k with
  | zero => rfl
  | succ k ih => rw [List.replicate_succ, List.flatten_cons, ih, List.replicate_succ, List.map_cons]; rfl
def sp_base_of_norms (T : List (Addr × Str)) (C : Addr) : Sp := fun vs H Q _ => ∃ (g d : Addr) (names : List Str) (rs : List Rule) (wt : Str → Nat), vs = [.ref g, .ref d] ∧ Tabs T H ∧ GramAt C H g names rs ∧ KnAt H d names wt ∧ GrW names rs wt ∧ ∀ p H' kvs, ExtN H H' → Tabs T H' → FreeN H p → H' p = some (.dK kvs) → BaseAt H' kvs (baseN wt (ordW names wt)) → (∀ p ∈ kvs, ∀ a, p.2 = .ref a → FreeN H a) → Q (.ref p) H'
theorem ok_base_of_norms (T : Txt K mg A) (TB : TabB base mg A.k_lam A.p_lam) : FnOk P w K mg base CX0 5 A.a_base_of_norms A.d_base_of_norms ["grammar", "known"] (sp_base_of_norms (tabT A) A.c_Grammar) := by
  have G_by_norms : FnOk P w K mg base CX0 4 A.a_by_norms A.d_by_norms ["grammar", "known"] (sp_by_norms (tabT A) A.c_Grammar) := ok_by_norms T TB
  refine T.F_base_of_norms.ok sc_base_of_norms (fun vs H Q E h => ?_) (fun cdv A0 outer s0 H vs Q E hr h => ?_)
  · obtain ⟨_, _, _, _, _, rfl, _⟩ := h
    rfl
  · obtain ⟨g, d, names, rs, wt, rfl, hT, G, hd, gw, q⟩ := h
    have hu := hu_of hr
    have gg := gw.gw
    obtain ⟨x0, tl, ho⟩ : ∃ x0 tl, ordW names wt = x0 :: tl := by
      cases e : ordW names wt with
      | nil => exact absurd e gg.ne
      | cons x xs => exact ⟨x, xs, rfl⟩
    have htl : tl.length + 1 ≤ 1000 := by
      have := (ordW_perm names wt).length_eq
      rw [ho] at this
      have := gw.le
      simp at *
      omega
    have hmem : ∀ n ∈ tl, n ∈ names := fun n hn => (ordW_perm names wt).mem_iff.mp (by rw [ho]; exact List.mem_cons_of_mem _ hn)
    refine ⟨_, (pss_cons (ps_set (i := 2) sc_base_of_norms.nd rfl (Or.inr rfl) (pe_call G_by_norms (hr.mono (by decide)) (by rfl) T.g_by_norms T.F_by_norms.kp T.b_by_norms .nil pass0 (pa_cons (pv 0) (pa_cons (pv 1) pa_nil))))
 (pss_one (ps_ret (pe_callTy (T := "dict") (r := rDictP K) (call_dictP rfl) (by rfl) T.dict_ (by decide +kernel) (pa_cons (pe_lc (own := [("name", 3)]) (g := gName 3) (by rfl) sc_base_of_norms.nd (pi_list (pe_slice (r := rSlL K) sl_list (pv 2) (po_some pe_int) po_none)) (blkOk_by (own := [("name", 3)]) (N := ["grammar", "known", "names", "name"]) (sc := defScope s_base_of_norms) (by decide +kernel)) (fun _ _ _ _ _ => (pg_name (i := 3) sc_base_of_norms.nd rfl (Or.inl rfl))) (fun _ _ _ _ _ => pts_nil) (fun _ _ _ _ _ => (pe_tup (pa_cons (pv 3) (pa_cons (pe_op op_rep (pe_lst (pa_cons (pe_ix (r := rIxL K) ix_list (pv 2) pe_int (fun _ _ => rfl)) pa_nil)) (pe_dget hu (pv 1) (pv 3) (fun _ _ => rfl))) pa_nil))))) pa_nil))))), ?_⟩
    refine ⟨_, rfl, _, rfl, g, d, names, rs, wt, rfl, hT, G, hd, fun nl H1 eN T1 hnf hnl => ?_⟩
    rw [ho] at hnl
    have hd1 := hd.ext eN
    refine ⟨_, rfl, _, rfl, nl, _, rfl, SqL.of hnl, fun c hc => ?_⟩
    have ec : cutV ((x0 :: tl).map V.str) (some (1 : Int)) none = tl.map V.str := by
      rw [show (1 : Int) = ((1 : Nat) : Int) from rfl, cut_ge]; rfl
    rw [ec]
    have smc := same_new hc (o := .lst (tl.map V.str))
    have hcA : (upd H1 c (.lst (tl.map V.str))) c = some (.lst (tl.map V.str)) := upd_same
    have hnl2 := smc _ _ hnl
    have hc0 := eN.fr hc
    generalize upd H1 c (.lst (tl.map V.str)) = H2 at smc hcA hnl2 ⊢
    refine ⟨c, rfl, ⟨_, SqL.of hcA⟩, fun D hD => lc_list (K := K) (a := c) (xs := tl.map V.str) (fun i H' => Same H2 H' ∧ ∃ (us : List Addr) (xs : List (Str × Addr)), H' D = some (.lst (us.map V.ref)) ∧ xs.map (·.1) = tl.take i ∧ Paired (fun u (x : Str × Addr) => u ≠ D ∧ x.2 ≠ D ∧ H' u = some (.tup [.str x.1, .ref x.2]) ∧ H' x.2 = some (.lst ((List.replicate (wt x.1) x0).map V.str)) ∧ FreeN H x.2) us xs) ?_ ?_ ?_ ?_⟩
    · exact ⟨same_new hD, [], [], upd_same, rfl, .nil⟩
    · rintro i H' _ ⟨sm, _⟩
      exact SqL.of (sm _ _ hcA)
    · rintro i v H' hi ⟨sm, us, xs, hu1, hx1, hu2⟩
      obtain ⟨n, hn, rfl⟩ := map_at hi
      have hnn := hmem n (List.mem_of_getElem? hn)
      have hw12 := gw.w12 n hnn
      obtain ⟨kvs, hk1, hk2⟩ := (hd1.same smc).same sm
      refine ⟨rfl, tyes (iteT ?_)⟩
      refine ⟨_, rfl, _, rfl, nl, _, _, _, rfl, rfl, SqL.of (sm _ _ hnl2), atI_nat (j := 0) rfl, sl2 (by show 1 ≤ 1000000; decide), fun p1 hp1 => ?_⟩
      have sm1 := same_new hp1 (o := .lst [V.str x0])
      refine ⟨_, rfl, _, rfl, d, _, rfl, .inl ⟨kvs, Sum.inr n, .inl (sm1 _ _ hk1), rfl, (hk2 n hnn).symm⟩, ?_⟩
      refine ⟨p1, _, _, rfl, rfl, upd_same, by omega, by omega, ?_, fun p2 hp2 => ?_⟩
      · rw [Int.toNat_natCast]
        exact sl2 (by show 1 * wt n ≤ 1000000; omega)
      rw [Int.toNat_natCast, flat_rep]
      have sm2 := same_new hp2 (o := .lst ((List.replicate (wt n) x0).map V.str))
      refine ⟨sl2 (by show 2 ≤ 1000000; decide), fun u hu3 => ?_⟩
      have sm3 := same_new hu3 (o := .tup [.str n, .ref p2])
      have smA := sm1.trans (sm2.trans sm3)
      have hDA := smA _ _ hu1
      have nuD : u ≠ D := fun z => by rw [z, (sm1.trans sm2) _ _ hu1] at hu3; cases hu3
      have npD : p2 ≠ D := fun z => by rw [z, sm1 _ _ hu1] at hp2; cases hp2
      have hp2A := sm3 _ _ (upd_same : (upd (upd H' p1 (.lst [V.str x0])) p2 (.lst ((List.replicate (wt n) x0).map V.str))) p2 = _)
      refine ⟨_, hDA, by rw [List.length_map, paired_len hu2, ← List.length_map (·.1), hx1, List.length_take]; exact sl1 (by omega), same_mut (sm.trans smA) hD, us ++ [u], xs ++ [(n, p2)], by rw [upd_same, List.map_append]; rfl, by rw [List.map_append, hx1, take_snoc hn]; rfl, ?_⟩
      refine paired_app (F := fun u' (x : Str × Addr) => u' ≠ D ∧ x.2 ≠ D ∧ (upd (upd (upd (upd H' p1 (.lst [V.str x0])) p2 (.lst ((List.replicate (wt n) x0).map V.str))) u (.tup [.str n, .ref p2])) D _) u' = some (.tup [.str x.1, .ref x.2]) ∧ (upd (upd (upd (upd H' p1 (.lst [V.str x0])) p2 (.lst ((List.replicate (wt n) x0).map V.str))) u (.tup [.str n, .ref p2])) D _) x.2 = some (.lst ((List.replicate (wt x.1) x0).map V.str)) ∧ FreeN H x.2) ⟨nuD, npD, by rw [upd_ne nuD, upd_same], by rw [upd_ne npD]; exact hp2A, ((eN.same smc).same (sm.trans sm1)).fr hp2⟩ (Paired.mapP hu2 fun t r ⟨a1, a2, a3, a4, a5⟩ => ⟨a1, a2, ?_, ?_, a5⟩)
      · rw [upd_ne a1]; exact smA _ _ a3
      · rw [upd_ne a2]; exact smA _ _ a4
    rintro H3 ⟨sm3, us, xs, hu1, hx1, hu2⟩
    rw [List.length_map, List.take_length] at hx1
    have hkv : Paired (fun p (kv : Key × V) => SqT K H3 p [kV kv.1, kv.2]) us (xs.map fun x => ((Sum.inr x.1 : Key), V.ref x.2)) := by
      refine paired_all (by rw [paired_len hu2, List.length_map]) fun i u kv h1 h2 => ?_
      obtain ⟨x, hx, rfl⟩ := map_at h2
      exact SqT.of (paired_ix hu2 h1 hx).2.2.1
    refine ⟨D, us, _, rfl, SqL.of hu1, hkv, fun p hp => ?_⟩
    have nd : tl.Nodup := by
      have := gg.nd
      rw [ho] at this
      exact (List.nodup_cons.mp this).2
    have hmg : mergeK [] (xs.map fun x => ((Sum.inr x.1 : Key), V.ref x.2)) = xs.map fun x => ((Sum.inr x.1 : Key), V.ref x.2) := by
      rw [mergeK_nd (fun _ _ => rfl)]
      · rfl
      · rw [List.map_map]
        have : (xs.map (·.1)).Nodup := by rw [hx1]; exact nd
        have e : xs.map ((fun q : Key × V => q.1) ∘ fun x : Str × Addr => ((Sum.inr x.1 : Key), V.ref x.2)) = (xs.map (·.1)).map fun n => (Sum.inr n : Key) := by rw [List.map_map]; rfl
        rw [e]
        exact this.map _ fun a b h z => h (Sum.inr.inj z)
    rw [hmg]
    have smp := same_new hp (o := .dK (xs.map fun x => ((Sum.inr x.1 : Key), V.ref x.2)))
    refine q p _ _ (((eN.same smc).same sm3).same smp) (tabs_same (tabs_same (tabs_same T1 smc) sm3) smp) (((eN.same smc).same sm3).fr hp) upd_same ?_ ?_
    rotate_left
    · intro q2 hq2 a2 ha2
      obtain ⟨x, hx, rfl⟩ := List.mem_map.mp hq2
      obtain ⟨i, hi⟩ := List.mem_iff_getElem?.mp hx
      have hl : i < us.length := by rw [paired_len hu2]; exact (List.getElem?_eq_some_iff.mp hi).1
      have := (paired_ix hu2 (List.getElem?_eq_getElem hl) hi).2.2.2.2
      rw [V.ref.inj ha2] at this
      exact this
    have ekb : baseN wt (ordW names wt) = xs.map fun x => (x.1, List.replicate (wt x.1) x0) := by
      rw [ho]
      unfold baseN
      show tl.map _ = _
      rw [← hx1, List.map_map]
      rfl
    rw [ekb]
    refine paired_all (by rw [List.length_map, List.length_map]) fun i kv m h1 h2 => ?_
    obtain ⟨x, hx, rfl⟩ := map_at h1
    obtain ⟨x', hx', rfl⟩ := map_at h2
    have e : x' = x := Option.some.inj (hx'.symm.trans hx)
    subst e
    obtain ⟨u, hu3⟩ : ∃ u, us[i]? = some u := by
      have hl : i < us.length := by rw [paired_len hu2]; exact (List.getElem?_eq_some_iff.mp hx).1
      exact ⟨_, List.getElem?_eq_getElem hl⟩
    exact ⟨rfl, x'.2, rfl, smp _ _ (paired_ix hu2 hu3 hx).2.2.2.1⟩
end
end SG
namespace SG
open PySem PySem.Spec PyProof.Rows L2 LamX
section
variable {P : Program} {w : World} {K : PySem.W.Frag} {mg : Str → Option Value} {base : Heap} {A : Ad}
def sp_without : Sp := fun vs H Q _ => ∃ (bag : Bool) (wa pa : Addr) (whole part : List Str), vs = [.str (kd bag), .ref wa, .ref pa] ∧ H wa = some (.lst (whole.map V.str)) ∧ H pa = some (.lst (part.map V.str)) ∧ whole.length ≤ 1000000 ∧ part.length ≤ 1000000 ∧
  (without bag whole part = none → ∀ H', Same H H' → Q .non H') ∧ ∀ rest, without bag whole part = some rest → ∀ p H', H p = none → Same H H' → H' p = some (.lst (rest.map V.str)) → Q (.ref p) H'
theorem withoutB_at {part : List Str} {i : Nat} {n : Str} (h : part[i]? = some n) (rest : List Str) : withoutB rest (part.drop i) = if n ∈ rest then withoutB (rest.erase n) (part.drop (i + 1)) else none := by
  obtain ⟨hl, hx⟩ := List.getElem?_eq_some_iff.mp h
  rw [List.drop_eq_getElem_cons hl, hx]
  rfl
theorem any_strs {xs : List Str} {x : Str} : ((xs.map PyData.str).any fun z => PyData.eqv z (.str x)) = decide (x ∈ xs) := any_enc enc_str xs x
theorem ok_without (T : Txt K mg A) : FnOk P w K mg base CX0 1 A.a_without A.d_without ["kind", "whole", "part"] sp_without := by
  refine T.F_without.ok sc_without (fun vs H Q E h => ?_) (fun cdv A0 outer s0 H vs Q E hr h => ?_)
  · obtain ⟨_, _, _, _, _, rfl, _⟩ := h
    rfl
  · obtain ⟨bag, wa, pa, whole, part, rfl, hw, hp, hwl, hpl, q0, q1⟩ := h
    have hu64 := hu64_of hr
    refine ⟨_, (pss_cons (ps_if (pt_cmpR op_eq (pv 0) pe_str (nomark _)) (pss_cons (ps_if (pt_cmpR (r := rNeP K) (op_neP hu64) (pe_slice (r := rSlL K) sl_list (pv 1) po_none (po_some (pe_callB (id := "len") (r := Evl.rLenS K) call_len_seq (by rfl) T.len (by decide +kernel) (pa_cons (pv 2) pa_nil)))) (pv 2) (nomark _)) (pss_one (ps_ret pe_non)) pss_nil)
 (pss_one (ps_ret (pe_slice (r := rSlL K) sl_list (pv 1) (po_some (pe_callB (id := "len") (r := Evl.rLenS K) call_len_seq (by rfl) T.len (by decide +kernel) (pa_cons (pv 2) pa_nil))) po_none)))) pss_nil)
 (pss_cons (ps_set (i := 3) sc_without.nd rfl (Or.inl rfl) (pe_callTy (T := "list") (r := Evl.rListS K) call_list_of (by rfl) T.list_ (by decide +kernel) (pa_cons (pv 1) pa_nil)))
 (pss_cons (ps_for PassesOwn.never rfl (pi_list (pv 2)) (pg_name (i := 4) sc_without.nd rfl (Or.inl rfl))
 (pss_cons (ps_if (pt_cmpR (r := rNotInP K) (op_notInP hu64) (pv 4) (pv 3) (by rfl)) (pss_one (ps_ret pe_non)) pss_nil)
 (pss_one (ps_expr (pe_bm PySem.F.plainAttrs_list PySem.F.slot_list_remove PySem.F.type_list_remove (mt_removeS hu64) (pv 3) (pa_cons (pv 4) pa_nil))))))
 (pss_one (ps_ret (pv 3)))))), ?_⟩
    refine ⟨_, rfl, rfl, _, rfl, ?_⟩
    rw [kd_row]
    cases bag with
    | false =>
      refine iteT ?_
      refine ⟨_, rfl, _, rfl, pa, _, rfl, .inl (SqL.of hp), _, rfl, wa, _, rfl, SqL.of hw, fun c hc => ?_⟩
      have el : (((part.map V.str).length : Nat) : Int) = ((part.length : Nat) : Int) := by rw [List.length_map]
      rw [el, cut_lt, ← List.map_take]
      have smc := same_new hc (o := .lst ((whole.take part.length).map V.str))
      have hcA : (upd H c (.lst ((whole.take part.length).map V.str))) c = some (.lst ((whole.take part.length).map V.str)) := upd_same
      generalize upd H c (.lst ((whole.take part.length).map V.str)) = H1 at smc hcA ⊢
      refine ⟨_, rfl, eSs (whole.take part.length), eSs part, dp_Ss hcA, dp_Ss (smc _ _ hp), Nat.le_trans (dep_Ss _) (by decide), _, rfl, ?_⟩
      rw [enc_Ss]
      by_cases c0 : whole.take part.length = part
      · rw [decide_eq_true c0]
        refine iteF ?_
        refine ⟨_, rfl, _, rfl, pa, _, rfl, .inl (SqL.of (smc _ _ hp)), _, rfl, wa, _, rfl, SqL.of (smc _ _ hw), fun p hp0 => ?_⟩
        rw [el, cut_ge, ← List.map_drop]
        exact q1 (whole.drop part.length) (by unfold without; rw [if_neg Bool.false_ne_true, if_pos c0]) p _ (smc.free hp0) (smc.trans (same_new hp0)) upd_same
      · rw [decide_eq_false c0]
        exact iteT (q0 (by unfold without; rw [if_neg Bool.false_ne_true, if_neg c0]) _ smc)
    | true =>
      refine iteF ?_
      have ew : ∀ x, without true whole part = x → withoutB whole part = x := fun x h => h
      refine ⟨_, rfl, wa, _, rfl, .inl (SqL.of hw), fun n1 hn1 => ?_⟩
      have sm1 := same_new hn1 (o := .lst (whole.map V.str))
      refine ⟨_, rfl, pa, rfl, ⟨_, SqL.of (sm1 _ _ hp)⟩, for_list (K := K) (a := pa) (xs := part.map V.str) (fun i σ' H' => ∃ (x4 : Option V) (rest : List Str), σ' = [some (.str (kd true)), some (.ref wa), some (.ref pa), some (.ref n1), x4] ∧ Same H H' ∧ H' n1 = some (.lst (rest.map V.str)) ∧ withoutB rest (part.drop i) = withoutB whole part) ?_ ?_ ?_ ?_⟩
      · exact ⟨_, whole, rfl, sm1, upd_same, rfl⟩
      · rintro i σ' H' _ ⟨_, _, rfl, sm, _⟩
        exact SqL.of (sm _ _ hp)
      · rintro i x σ' H' hi ⟨x4, rest, rfl, sm, hr1, he⟩
        obtain ⟨n, hn, rfl⟩ := map_at hi
        rw [withoutB_at hn] at he
        refine ⟨_, rfl, _, rfl, .str n, rest.map PyData.str, .str n, .inl (dp_strs (SqL.of hr1)), by rw [PyData.depth]; decide, _, rfl, ?_⟩
        rw [any_strs]
        by_cases c0 : n ∈ rest
        · rw [decide_eq_true c0]
          refine iteF ?_
          rw [if_pos c0] at he
          refine ⟨_, rfl, .inl ⟨rfl, _, SqL.of hr1⟩, _, rfl, n1, rest, n, rfl, rfl, hr1, c0, ?_⟩
          exact ⟨_, rest.erase n, rfl, same_mut sm hn1, upd_same, he⟩
        · rw [decide_eq_false c0]
          rw [if_neg c0] at he
          exact iteT (q0 (show withoutB whole part = none from he.symm) _ sm)
      · rintro σ' H' ⟨x4, rest, rfl, sm, hr1, he⟩
        rw [List.length_map, List.drop_of_length_le (Nat.le_refl _)] at he
        exact ⟨_, rfl, q1 rest (show withoutB whole part = some rest from he.symm) n1 H' hn1 sm hr1⟩
end
end SG
namespace SG
open PySem PySem.Spec PyProof.Rows L2 LamX
section
variable {P : Program} {w : World} {K : PySem.W.Frag} {mg : Str → Option Value} {base : Heap} {A : Ad}
def rgfs (g : Addr) (k : Str) (kn : Addr) (ol : Addr) (ba : Addr) (fi : Addr) : List (Str × V) := (putF "firsts" (.ref fi) (putF "base" (.ref ba) (putF "old" (.ref ol) (putF "known" (.ref kn) (putF "kind" (.str k) (putF "grammar" (.ref g) []))))))
theorem rgfs_grammar (g : Addr) (k : Str) (kn : Addr) (ol : Addr) (ba : Addr) (fi : Addr) : (rgfs g k kn ol ba fi).lookup ("grammar" : Str) = some (.ref g) := by unfold rgfs; rw [lookup_putF, if_neg (show ¬ (("grammar" : Str) = "firsts") by decide +kernel)]; rw [lookup_putF, if_neg (show ¬ (("grammar" : Str) = "base") by decide +kernel)]; rw [lookup_putF, if_neg (show ¬ (("grammar" : Str) = "old") by decide +kernel)]; rw [lookup_putF, if_neg (show ¬ (("grammar" : Str) = "known") by decide +kernel)]; rw [lookup_putF, if_neg (show ¬ (("grammar" : Str) = "kind") by decide +kernel)]; rw [lookup_putF, if_pos rfl]
theorem rgfs_kind (g : Addr) (k : Str) (kn : Addr) (ol : Addr) (ba : Addr) (fi : Addr) : (rgfs g k kn ol ba fi).lookup ("kind" : Str) = some (.str k) := by unfold rgfs; rw [lookup_putF, if_neg (show ¬ (("kind" : Str) = "firsts") by decide +kernel)]; rw [lookup_putF, if_neg (show ¬ (("kind" : Str) = "base") by decide +kernel)]; rw [lookup_putF, if_neg (show ¬ (("kind" : Str) = "old") by decide +kernel)]; rw [lookup_putF, if_neg (show ¬ (("kind" : Str) = "known") by decide +kernel)]; rw [lookup_putF, if_pos rfl]
theorem rgfs_known (g : Addr) (k : Str) (kn : Addr) (ol : Addr) (ba : Addr) (fi : Addr) : (rgfs g k kn ol ba fi).lookup ("known" : Str) = some (.ref kn) := by unfold rgfs; rw [lookup_putF, if_neg (show ¬ (("known" : Str) = "firsts") by decide +kernel)]; rw [lookup_putF, if_neg (show ¬ (("known" : Str) = "base") by decide +kernel)]; rw [lookup_putF, if_neg (show ¬ (("known" : Str) = "old") by decide +kernel)]; rw [lookup_putF, if_pos rfl]
theorem rgfs_old (g : Addr) (k : Str) (kn : Addr) (ol : Addr) (ba : Addr) (fi : Addr) : (rgfs g k kn ol ba fi).lookup ("old" : Str) = some (.ref ol) := by unfold rgfs; rw [lookup_putF, if_neg (show ¬ (("old" : Str) = "firsts") by decide +kernel)]; rw [lookup_putF, if_neg (show ¬ (("old" : Str) = "base") by decide +kernel)]; rw [lookup_putF, if_pos rfl]
theorem rgfs_base (g : Addr) (k : Str) (kn : Addr) (ol : Addr) (ba : Addr) (fi : Addr) : (rgfs g k kn ol ba fi).lookup ("base" : Str) = some (.ref ba) := by unfold rgfs; rw [lookup_putF, if_neg (show ¬ (("base" : Str) = "firsts") by decide +kernel)]; rw [lookup_putF, if_pos rfl]
theorem rgfs_firsts (g : Addr) (k : Str) (kn : Addr) (ol : Addr) (ba : Addr) (fi : Addr) : (rgfs g k kn ol ba fi).lookup ("firsts" : Str) = some (.ref fi) := by unfold rgfs; rw [lookup_putF, if_pos rfl]
theorem rgfs_no (g : Addr) (k : Str) (kn : Addr) (ol : Addr) (ba : Addr) (fi : Addr) {m : Str} (h0 : ¬ m = "grammar") (h1 : ¬ m = "kind") (h2 : ¬ m = "known") (h3 : ¬ m = "old") (h4 : ¬ m = "base") (h5 : ¬ m = "firsts") : (rgfs g k kn ol ba fi).lookup m = none := by unfold rgfs; rw [lookup_putF, if_neg h5]; rw [lookup_putF, if_neg h4]; rw [lookup_putF, if_neg h3]; rw [lookup_putF, if_neg h2]; rw [lookup_putF, if_neg h1]; rw [lookup_putF, if_neg h0]; rfl
/-- a Refining instance -/
structure RfAt (C CG : Addr) (H0 H : Hp) (c g kn ol ba fi : Addr) (bag : Bool) (names : List Str) (rs : List Rule) (wt : Str → Nat) (old kb : KB) (firsts : List Str) : Prop where
  ins : ∃ dx, H c = some (.ins C dx (rgfs g (kd bag) kn ol ba fi))
  gnd : ExtN H0 H ∧ FreeN H0 ba ∧ FreeN H0 fi ∧ GramAt CG H0 g names rs ∧ KnAt H0 kn names wt ∧ ∃ kvs, H0 ol = some (.dK kvs) ∧ BaseAt H0 kvs old
  atBase : ∃ kvs, H ba = some (.dK kvs) ∧ BaseAt H kvs kb
  sep : ∀ kvs, H ba = some (.dK kvs) → ∀ p ∈ kvs, p.2 ≠ .ref fi ∧ ∀ a, p.2 = .ref a → FreeN H0 a
  fst : H fi = some (.lst (firsts.map V.str))
  gw : GrW names rs wt
  o12 : ∀ m ∈ old, m.2.length ≤ 12
  b12 : ∀ m ∈ kb, m.2.length ≤ 12
  fin : ∀ x ∈ firsts, x ∈ names
  fln : firsts.length ≤ 1000
  kbl : kb.length ≤ 1000
theorem RfAt.gram {C CG : Addr} {H0 H : Hp} {c g kn ol ba fi : Addr} {bag : Bool} {names : List Str} {rs : List Rule} {wt : Str → Nat} {old kb : KB} {firsts : List Str} (h : RfAt C CG H0 H c g kn ol ba fi bag names rs wt old kb firsts) : GramAt CG H g names rs := by
  obtain ⟨e, _, _, h1, _⟩ := h.gnd
  exact h1.ext e
theorem RfAt.known {C CG : Addr} {H0 H : Hp} {c g kn ol ba fi : Addr} {bag : Bool} {names : List Str} {rs : List Rule} {wt : Str → Nat} {old kb : KB} {firsts : List Str} (h : RfAt C CG H0 H c g kn ol ba fi bag names rs wt old kb firsts) : KnAt H kn names wt := by
  obtain ⟨e, _, _, _, h1, _⟩ := h.gnd
  exact h1.ext e
theorem RfAt.atOld {C CG : Addr} {H0 H : Hp} {c g kn ol ba fi : Addr} {bag : Bool} {names : List Str} {rs : List Rule} {wt : Str → Nat} {old kb : KB} {firsts : List Str} (h : RfAt C CG H0 H c g kn ol ba fi bag names rs wt old kb firsts) : ∃ kvs, H ol = some (.dK kvs) ∧ BaseAt H kvs old := by
  obtain ⟨e, _, _, _, _, kvs, h1, h2⟩ := h.gnd
  exact ⟨kvs, e.dk h1, h2.ext e⟩
theorem RfAt.same {C CG : Addr} {H0 H : Hp} {c g kn ol ba fi : Addr} {bag : Bool} {names : List Str} {rs : List Rule} {wt : Str → Nat} {old kb : KB} {firsts : List Str} (h : RfAt C CG H0 H c g kn ol ba fi bag names rs wt old kb firsts) {H' : Hp} (e : Same H H') : RfAt C CG H0 H' c g kn ol ba fi bag names rs wt old kb firsts := by
  obtain ⟨dx, h1⟩ := h.ins
  obtain ⟨x, h2⟩ := h.gnd
  obtain ⟨k2, h4, h5⟩ := h.atBase
  refine ⟨⟨dx, e _ _ h1⟩, ⟨x.same e, h2⟩, ⟨k2, e _ _ h4, h5.same e⟩, fun kvs hk => ?_, e _ _ h.fst, h.gw, h.o12, h.b12, h.fin, h.fln, h.kbl⟩
  rw [e _ _ h4] at hk
  cases hk
  exact h.sep _ h4
theorem putK_newB {H : Hp} {kvs : List (Key × V)} {kb : KB} (hB : BaseAt H kvs kb) {n : Str} (hn : n ∉ kb.map (·.1)) (v : V) : putK kvs (Sum.inr n : Key) v = kvs ++ [((Sum.inr n : Key), v)] := by
  refine putK_new _ ?_
  rcases baseAt_val hB n with ⟨e1, _⟩ | ⟨a, ms, _, _, _, e4⟩
  · exact e1
  · exact absurd (List.mem_map_of_mem (f := Prod.fst) e4) hn
theorem RfAt.put {C CG : Addr} {H0 H : Hp} {c g kn ol ba fi : Addr} {bag : Bool} {names : List Str} {rs : List Rule} {wt : Str → Nat} {old kb : KB} {firsts : List Str} (h0 : RfAt C CG H0 H c g kn ol ba fi bag names rs wt old kb firsts) {H3 : Hp} (sm : Same H H3) {m : Addr} {n : Str} {making : List Str} {kvs : List (Key × V)} (hk : H3 ba = some (.dK kvs)) (hm0 : H m = none) (hm : H3 m = some (.lst (making.map V.str))) (hn : n ∉ kb.map (·.1)) (hl : making.length ≤ 12) (hkl : kb.length < 1000) : RfAt C CG H0 (upd H3 ba (.dK (putK kvs (Sum.inr n : Key) (.ref m)))) c g kn ol ba fi bag names rs wt old (kb ++ [(n, making)]) firsts := by
  have hmf : m ≠ fi := fun z => by rw [z, h0.fst] at hm0; cases hm0
  have hmF := h0.gnd.1.fr hm0
  have h := h0.same sm
  obtain ⟨dx, h1⟩ := h.ins
  obtain ⟨x, hf1, h2⟩ := h.gnd
  obtain ⟨k2, h4, h5⟩ := h.atBase
  rw [hk] at h4
  cases h4
  rw [putK_newB h5 hn]
  have nl : ∀ {a : Addr} {l : List V}, H3 a = some (.lst l) → a ≠ ba := fun e => ne_of e hk fun z => by cases z
  refine ⟨⟨dx, by rw [upd_ne (ne_of h1 hk fun z => by cases z)]; exact h1⟩, ⟨x.mut hf1 _, hf1, h2⟩, ⟨_, upd_same, ?_⟩, fun kvs' hk' p hp => ?_, by rw [upd_ne (nl h.fst)]; exact h.fst, h.gw, h.o12, fun q hq => ?_, h.fin, h.fln, by rw [List.length_append]; exact hkl⟩
  · refine paired_app (F := fun (p : Key × V) (m : Str × List Str) => p.1 = Sum.inr m.1 ∧ ∃ a, p.2 = .ref a ∧ (upd H3 ba _) a = some (.lst (m.2.map V.str))) ⟨rfl, m, rfl, by rw [upd_ne (nl hm)]; exact hm⟩ (Paired.mapP h5 fun p q ⟨g1, a, g2, g3⟩ => ⟨g1, a, g2, by rw [upd_ne (nl g3)]; exact g3⟩)
  · rw [upd_same] at hk'
    cases hk'
    rcases List.mem_append.mp hp with hp | hp
    · exact h.sep _ hk p hp
    · rw [List.mem_singleton.mp hp]
      exact ⟨fun z => hmf (V.ref.inj z), fun a z => (V.ref.inj z) ▸ hmF⟩
  · rcases List.mem_append.mp hq with hq | hq
    · exact h.b12 q hq
    · rw [List.mem_singleton.mp hq]
      exact hl
theorem paired_memL {α β : Type} {F : α → β → Prop} {G : α → Prop} : ∀ {xs : List α} {ys : List β}, Paired F xs ys → (∀ x ∈ xs, G x) → Paired (fun x y => F x y ∧ G x) xs ys
  | _, _, .nil, _ => .nil
  | _, _, .cons h1 k, g => .cons ⟨h1, g _ List.mem_cons_self⟩ (paired_memL k fun x hx => g x (List.mem_cons_of_mem _ hx))
theorem RfAt.push {C CG : Addr} {H0 H : Hp} {c g kn ol ba fi : Addr} {bag : Bool} {names : List Str} {rs : List Rule} {wt : Str → Nat} {old kb : KB} {firsts : List Str} (h : RfAt C CG H0 H c g kn ol ba fi bag names rs wt old kb firsts) {n : Str} (hn : n ∈ names) (hl : firsts.length < 1000) : RfAt C CG H0 (upd H fi (.lst ((firsts ++ [n]).map V.str))) c g kn ol ba fi bag names rs wt old kb (firsts ++ [n]) := by
  obtain ⟨dx, h1⟩ := h.ins
  obtain ⟨x, hf1, hf2, h2⟩ := h.gnd
  obtain ⟨k2, h4, h5⟩ := h.atBase
  have nb : ba ≠ fi := ne_of h4 h.fst fun z => by cases z
  refine ⟨⟨dx, by rw [upd_ne (ne_of h1 h.fst fun z => by cases z)]; exact h1⟩, ⟨x.mut hf2 _, hf1, hf2, h2⟩, ⟨k2, by rw [upd_ne nb]; exact h4, ?_⟩, fun kvs' hk' => ?_, upd_same, h.gw, h.o12, h.b12, fun y hy => ?_, by rw [List.length_append]; exact hl, h.kbl⟩
  · refine Paired.mapP (paired_memL h5 (h.sep _ h4)) fun p q ⟨⟨g1, a, g2, g3⟩, g4⟩ => ⟨g1, a, g2, ?_⟩
    rw [upd_ne (fun z => g4.1 (by rw [g2, z]))]
    exact g3
  · rw [upd_ne nb] at hk'
    exact h.sep _ hk'
  · rcases List.mem_append.mp hy with hy | hy
    · exact h.fin y hy
    · rw [List.mem_singleton.mp hy]
      exact hn
theorem stK_in {bag : Bool} {names : List Str} {rs : List Rule} {one : List Str} (hin : ∀ r ∈ rs, r.1 ∈ names ∧ ∀ x ∈ r.2.2, x ∈ names) (ho : ∀ x ∈ one, x ∈ names) {s : Step} (hs : s ∈ stK bag rs one) : ∀ x ∈ s.2, x ∈ names := by
  unfold stK at hs
  cases bag with
  | true =>
    rw [if_pos rfl] at hs
    obtain ⟨n, hn, p, hp, rfl⟩ := mem_bagPuts.mp ((each1_mem _ _).mp hs)
    intro x hx
    rcases List.mem_append.mp ((ssort_perm _).mem_iff.mp hx) with h | h
    · exact (hin _ (mem_rulesOf.mp hp)).2 x h
    · exact ho x (List.mem_of_mem_erase h)
  | false =>
    rw [if_neg Bool.false_ne_true] at hs
    have hs := (each1_mem _ _).mp hs
    cases one with
    | nil => cases hs
    | cons n t =>
      obtain ⟨p, hp, rfl⟩ := List.mem_map.mp (show s ∈ (rulesOf rs n).map _ from hs)
      intro x hx
      rcases List.mem_append.mp hx with h | h
      · exact (hin _ (mem_rulesOf.mp hp)).2 x h
      · exact ho x (List.mem_cons_of_mem _ h)
theorem stK_short {bag : Bool} {rs : List Rule} {one : List Str} (hsh : ShortR rs) (ho : one.length ≤ 1000) : (∀ s ∈ stK bag rs one, s.2.length ≤ 2000) ∧ (stK bag rs one).length ≤ 100000 := by
  unfold stK
  cases bag with
  | true =>
    rw [if_pos rfl]
    refine ⟨fun s hs => bagPuts_short hsh.2 ho s ((each1_mem _ _).mp hs), ?_⟩
    have := each1_len (bagPuts rs one)
    have := bagPuts_len hsh.1 one
    unfold bagSteps
    omega
  | false =>
    rw [if_neg Bool.false_ne_true]
    refine ⟨fun s hs => rowPuts_short hsh.2 ho s ((each1_mem _ _).mp hs), ?_⟩
    have := each1_len (rowPuts rs one)
    have := rowPuts_len hsh.1 one
    unfold rowSteps
    omega
def sp_lessened (C CG : Addr) : Sp := fun vs H Q _ => ∃ (H0 : Hp) (c g kn ol ba fi a : Addr) (bag : Bool) (names : List Str) (rs : List Rule) (wt : Str → Nat) (old kb : KB) (firsts one : List Str), vs = [.ref c, .ref a] ∧ RfAt C CG H0 H c g kn ol ba fi bag names rs wt old kb firsts ∧ H a = some (.lst (one.map V.str)) ∧ (∀ x ∈ one, x ∈ names) ∧ one.length ≤ 1000 ∧
  ∀ p H', H p = none → Same H H' → ListAt H' p (lessS bag rs wt one) → Q (.ref p) H'
theorem ok_lessened (T : Txt K mg A) : FnOk P w K mg base CX0 5 A.a_Refining_lessened A.d_Refining_lessened ["self", "one"] (sp_lessened A.c_Refining A.c_Grammar) := by
  have G_added_up : FnOk P w K mg base CX0 1 A.a_added_up A.d_added_up ["norms", "row"] sp_addedW := ok_added_upW T
  have G_steps_of : FnOk P w K mg base CX0 4 A.a_steps_of A.d_steps_of ["grammar", "kind", "one"] (sp_steps_of A.c_Grammar) := ok_steps_of T
  refine T.F_Refining_lessened.ok sc_Refining_lessened (fun vs H Q E h => ?_) (fun cdv A0 outer s0 H vs Q E hr h => ?_)
  · obtain ⟨_, _, _, _, _, _, _, _, _, _, _, _, _, _, _, _, rfl, _⟩ := h
    rfl
  · obtain ⟨H0, c, g, kn, ol, ba, fi, a, bag, names, rs, wt, old, kb, firsts, one, rfl, rf, ha, ho, hol, q⟩ := h
    obtain ⟨dx, hc⟩ := rf.ins
    obtain ⟨s1, s2⟩ := stK_short (bag := bag) (one := one) rf.gw.sh hol
    refine ⟨_, (pss_cons (ps_set (i := 2) sc_Refining_lessened.nd rfl (Or.inr rfl) (pe_call G_added_up (hr.mono (by decide)) (by rfl) T.g_added_up T.F_added_up.kp T.b_added_up .nil pass0 (pa_cons (pe_fld (pv 0) rfl) (pa_cons (pv 1) pa_nil))))
 (pss_cons (ps_set (i := 3) sc_Refining_lessened.nd rfl (Or.inl rfl) (pe_call G_steps_of (hr.mono (by decide)) (by rfl) T.g_steps_of T.F_steps_of.kp T.b_steps_of .nil pass0 (pa_cons (pe_fld (pv 0) rfl) (pa_cons (pe_fld (pv 0) rfl) (pa_cons (pv 1) pa_nil)))))
 (pss_one (ps_ret (pe_lc (own := [("step", 4)]) (g := gName 4) (by rfl) sc_Refining_lessened.nd (pi_list (pv 3)) (blkOk_by (own := [("step", 4)]) (N := ["self", "one", "norm", "steps", "step"]) (sc := defScope s_Refining_lessened) (by decide +kernel)) (fun _ _ _ _ _ => (pg_name (i := 4) sc_Refining_lessened.nd rfl (Or.inl rfl))) (fun _ _ _ _ _ => pts_one (pt_cmpR op_eq (pe_call G_added_up (hr.mono (by decide)) (by rfl) T.g_added_up T.F_added_up.kp T.b_added_up .nil pass0 (pa_cons (show PE _ _ (tFld K _ _) from (pe_fld (pv 0) rfl)) (pa_cons (pe_ix (r := rIxT K) ix_tup (pv 4) pe_int (fun _ _ => rfl)) pa_nil))) (pe_op op_sub (pv 2) pe_int) (nomark _))) (fun _ _ _ _ _ => (pv 4))))))), ?_⟩
    refine ⟨_, rfl, c, A.c_Refining, dx, _, _, rfl, hc, T.cl_Refining, T.n_Refining_known, rgfs_known g (kd bag) kn ol ba fi, _, rfl, kn, a, names, wt, one, rfl, rf.known, ho, ha, by omega, fun H1 sm1 => ?_⟩
    have rf1 := rf.same sm1
    have hc1 := sm1 _ _ hc
    refine ⟨_, rfl, c, A.c_Refining, dx, _, _, rfl, hc1, T.cl_Refining, T.n_Refining_grammar, rgfs_grammar g (kd bag) kn ol ba fi, _, rfl, c, A.c_Refining, dx, _, _, rfl, hc1, T.cl_Refining, T.n_Refining_kind, rgfs_kind g (kd bag) kn ol ba fi, _, rfl, g, a, kd bag, names, rs, one, rfl, rf1.gram, sm1 _ _ ha, ho, hol, rf.gw.sh, fun p H2 nr => ?_⟩
    rw [stepsOf_kd] at nr
    obtain ⟨hp0, sm2, us, hus, hpr⟩ := nr
    have hpl := paired_len hpr
    refine ⟨_, rfl, p, rfl, ⟨_, SqL.of hus⟩, fun D hD => lc_list (K := K) (a := p) (xs := us.map V.ref) (fun i H' => Same H2 H' ∧ ∃ vs : List Addr, H' D = some (.lst (vs.map V.ref)) ∧ Paired (RuleAt H2) vs (((stK bag rs one).take i).filter fun s => decide (wsum wt s.2 + 1 = wsum wt one))) ?_ ?_ ?_ ?_⟩
    · exact ⟨same_new hD, [], upd_same, .nil⟩
    · rintro i H' _ ⟨sm, _⟩
      exact SqL.of (sm _ _ hus)
    · rintro i x H' hi ⟨sm, vs, hv1, hv2⟩
      obtain ⟨u0, hui, rfl⟩ := map_at hi
      obtain ⟨r, hr1, h0, w0, h0w, hw1, hw2⟩ := paired_get hpr hui
      have hrm := List.mem_of_getElem? hr1
      have hrl := s1 r hrm
      refine ⟨rfl, ?_⟩
      have smA := (sm1.trans sm2).trans sm
      refine ⟨_, rfl, c, A.c_Refining, dx, _, _, rfl, smA _ _ hc, T.cl_Refining, T.n_Refining_known, rgfs_known g (kd bag) kn ol ba fi, _, rfl, _, _, _, _, rfl, rfl, SqT.of (sm _ _ hw1), atI_nat (j := 1) rfl, kn, w0, names, wt, r.2, rfl, rf.known.same smA, stK_in rf.gw.rin ho hrm, sm _ _ hw2, by omega, fun H3 sm3 => ?_⟩
      refine ⟨_, rfl, _, _, rfl, rfl, rfl, _, rfl, ?_⟩
      rw [int_dec]
      have hlen : vs.length ≤ 100000 := by
        rw [paired_len hv2]
        refine Nat.le_trans (List.length_filter_le _ _) ?_
        rw [List.length_take]
        omega
      refine iteB (fun hc => ?_) (fun hc => ?_)
      · refine ⟨_, rfl, _, sm3 _ _ hv1, by rw [List.length_map]; exact sl1 (by omega), same_mut (sm.trans sm3) hD, vs ++ [u0], by rw [upd_same, List.map_append]; rfl, ?_⟩
        rw [filter_take hr1, if_pos hc]
        exact paired_app (F := RuleAt H2) ⟨w0, hw1, hw2⟩ hv2
      · refine ⟨sm.trans sm3, vs, sm3 _ _ hv1, ?_⟩
        rw [filter_take hr1, if_neg (by rw [hc]; exact Bool.false_ne_true), List.append_nil]
        exact hv2
    rintro H3 ⟨sm3, vs, hv1, hv2⟩
    rw [List.length_map, hpl, List.take_length] at hv2
    exact q D H3 (sm1.free (sm2.free hD)) ((sm1.trans sm2).trans sm3) ⟨vs, hv1, Paired.mapP hv2 fun t r h => h.same sm3⟩
def sp_outs_by (C CG : Addr) : Sp := fun vs H Q _ => ∃ (H0 : Hp) (c g kn ol ba fi b a : Addr) (bag less : Bool) (names : List Str) (rs : List Rule) (wt : Str → Nat) (old kb : KB) (firsts one : List Str) (kvs : List (Key × V)) (kb2 : KB), vs = [.ref c, .ref b, .ref a, .bl less] ∧ RfAt C CG H0 H c g kn ol ba fi bag names rs wt old kb firsts ∧ H b = some (.dK kvs) ∧ BaseAt H kvs kb2 ∧ (∀ m ∈ kb2, m.2.length ≤ 12) ∧ H a = some (.lst (one.map V.str)) ∧ (∀ x ∈ one, x ∈ names) ∧ one.length ≤ 1000 ∧
  ∀ p H', H p = none → Same H H' → ListAt H' p (outsBy bag rs wt kb2 one less) → Q (.ref p) H'
theorem ok_outs_by (T : Txt K mg A) : FnOk P w K mg base CX0 6 A.a_Refining_outs_by A.d_Refining_outs_by ["self", "base", "one", "less"] (sp_outs_by A.c_Refining A.c_Grammar) := by
  have G_steps_of : FnOk P w K mg base CX0 4 A.a_steps_of A.d_steps_of ["grammar", "kind", "one"] (sp_steps_of A.c_Grammar) := ok_steps_of T
  have G_Refining_lessened : FnOk P w K mg base CX0 5 A.a_Refining_lessened A.d_Refining_lessened ["self", "one"] (sp_lessened A.c_Refining A.c_Grammar) := ok_lessened T
  have G_outs_of : FnOk P w K mg base CX0 2 A.a_outs_of A.d_outs_of ["kind", "base", "steps"] sp_outs_of := ok_outs_of T
  refine T.F_Refining_outs_by.ok sc_Refining_outs_by (fun vs H Q E h => ?_) (fun cdv A0 outer s0 H vs Q E hr h => ?_)
  · obtain ⟨_, _, _, _, _, _, _, _, _, _, _, _, _, _, _, _, _, _, _, _, rfl, _⟩ := h
    rfl
  · obtain ⟨H0, c, g, kn, ol, ba, fi, b, a, bag, less, names, rs, wt, old, kb, firsts, one, kvs, kb2, rfl, rf, hb, hB, h12, ha, ho, hol, q⟩ := h
    obtain ⟨dx, hc⟩ := rf.ins
    obtain ⟨s1, s2⟩ := stK_short (bag := bag) (one := one) rf.gw.sh hol
    refine ⟨_, (pss_cons (ps_set (i := 4) sc_Refining_outs_by.nd rfl (Or.inl rfl) (pe_call G_steps_of (hr.mono (by decide)) (by rfl) T.g_steps_of T.F_steps_of.kp T.b_steps_of .nil pass0 (pa_cons (pe_fld (pv 0) rfl) (pa_cons (pe_fld (pv 0) rfl) (pa_cons (pv 2) pa_nil)))))
 (Evl.pss_cut (ps_if (pt_val (pv 3)) (pss_one (ps_set (i := 4) sc_Refining_outs_by.nd rfl (Or.inl rfl) (pe_meth (pv 0) T.cl_Refining T.m_Refining_lessened G_Refining_lessened (hr.mono (by decide)) T.b_Refining_lessened .nil pass0 (pa_cons (pv 2) pa_nil)))) pss_nil)
 (pss_one (ps_ret (pe_call G_outs_of (hr.mono (by decide)) (by rfl) T.g_outs_of T.F_outs_of.kp T.b_outs_of .nil pass0 (pa_cons (pe_fld (pv 0) rfl) (pa_cons (pv 1) (pa_cons (pv 4) pa_nil)))))))), ?_⟩
    refine ⟨_, rfl, c, A.c_Refining, dx, _, _, rfl, hc, T.cl_Refining, T.n_Refining_grammar, rgfs_grammar g (kd bag) kn ol ba fi, _, rfl, c, A.c_Refining, dx, _, _, rfl, hc, T.cl_Refining, T.n_Refining_kind, rgfs_kind g (kd bag) kn ol ba fi, _, rfl, g, a, kd bag, names, rs, one, rfl, rf.gram, ha, ho, hol, rf.gw.sh, fun p H1 nr => ?_⟩
    rw [stepsOf_kd] at nr
    have sm1 := nr.2.1
    have hat := nr.at_
    refine ⟨fun σ' H' => ∃ st : Addr, σ' = [some (.ref c), some (.ref b), some (.ref a), some (.bl less), some (.ref st)] ∧ Same H H' ∧ ListAt H' st (if less then lessS bag rs wt one else stK bag rs one), ?_, ?_⟩
    · refine ⟨_, rfl, _, rfl, ?_⟩
      cases less with
      | true =>
        refine iteT ?_
        refine ⟨_, rfl, c, _, _, rfl, sm1 _ _ hc, rgfs_no g (kd bag) kn ol ba fi (by decide +kernel) (by decide +kernel) (by decide +kernel) (by decide +kernel) (by decide +kernel) (by decide +kernel), _, rfl, H0, c, g, kn, ol, ba, fi, a, bag, names, rs, wt, old, kb, firsts, one, rfl, rf.same sm1, sm1 _ _ ha, ho, hol, fun p2 H2 _ sm2 h2 => ?_⟩
        exact ⟨p2, rfl, sm1.trans sm2, h2⟩
      | false => exact iteF ⟨p, rfl, sm1, hat⟩
    rintro σ' H2 ⟨st, rfl, sm2, hst⟩
    have hlen : (if less = true then lessS bag rs wt one else stK bag rs one).length ≤ 500000 ∧ ∀ s ∈ (if less = true then lessS bag rs wt one else stK bag rs one), s.2.length ≤ 50000 := by
      cases less with
      | true =>
        refine ⟨?_, fun s hs => by have := s1 s (List.mem_filter.mp hs).1; omega⟩
        show (lessS bag rs wt one).length ≤ _
        unfold lessS
        refine Nat.le_trans (List.length_filter_le _ _) ?_
        omega
      | false => exact ⟨by show (stK bag rs one).length ≤ _; omega, fun s hs => by have := s1 s hs; omega⟩
    refine ⟨_, rfl, c, A.c_Refining, dx, _, _, rfl, sm2 _ _ hc, T.cl_Refining, T.n_Refining_kind, rgfs_kind g (kd bag) kn ol ba fi, _, rfl, _, rfl, bag, b, st, kvs, kb2, _, rfl, sm2 _ _ hb, hB.same sm2, h12, hst, hlen.1, hlen.2, fun p3 H3 hp3 sm3 h3 => ?_⟩
    exact q p3 H3 (sm2.free hp3) (sm2.trans sm3) h3
end
end SG
namespace SG
open PySem PySem.Spec PyProof.Rows L2 LamX
section
variable {P : Program} {w : World} {K : PySem.W.Frag} {mg : Str → Option Value} {base : Heap} {A : Ad}
def candF (bag : Bool) (kb : KB) (letter : Str) (whole : List Str) (f : Str) (p : Str × List Str) : Option (List Str) := if p.1 = letter then (without bag whole (outK bag kb p.2)).map fun rest => asK bag (f :: rest) else none
theorem candOf_eq (bag : Bool) (rs : List Rule) (wt : Str → Nat) (kb : KB) (letter : Str) (whole : List Str) (f : Str) : candOf bag rs wt kb letter whole f = (lessR rs wt f).filterMap (candF bag kb letter whole f) := rfl
theorem fmap_take {α β : Type} {f : α → Option β} {xs : List α} {i : Nat} {x : α} (h : xs[i]? = some x) : (xs.take (i + 1)).filterMap f = (xs.take i).filterMap f ++ (match f x with | some y => [y] | none => []) := by
  rw [take_snoc h, List.filterMap_append]
  cases c : f x with
  | some y => simp [c]
  | none => simp [c]
theorem flat_take {α β : Type} {f : α → List β} {xs : List α} {i : Nat} {x : α} (h : xs[i]? = some x) : (xs.take (i + 1)).flatMap f = (xs.take i).flatMap f ++ f x := by
  rw [take_snoc h, List.flatMap_append]
  simp
theorem flat_len2 {α β : Type} {f : α → List β} {k : Nat} (h : ∀ x, (f x).length ≤ k) : ∀ xs : List α, (xs.flatMap f).length ≤ k * xs.length
  | [] => Nat.zero_le _
  | x :: xs => by
    rw [List.flatMap_cons, List.length_append, List.length_cons, Nat.mul_succ]
    have := h x
    have := flat_len2 h xs
    omega
theorem outs_nil (ns : List Str) : outs [] ns = ns := outs_firsts fun _ _ h => nomatch h
theorem outK_nil (bag : Bool) (ns : List Str) : outK bag [] ns = asK bag ns := by
  unfold outK asK
  rw [outs_nil]
theorem lessR_len {rs : List Rule} (h : ShortR rs) (wt : Str → Nat) (n : Str) : (lessR rs wt n).length ≤ 100 := by
  unfold lessR
  refine Nat.le_trans (List.length_filter_le _ _) (h.of n).1
theorem outK_len {kb : KB} (h : ∀ m ∈ kb, m.2.length ≤ 12) (bag : Bool) {ns : List Str} (hn : ns.length ≤ 1000) : (outK bag kb ns).length ≤ 12000 := by
  rw [(outK_perm bag kb ns).length_eq]
  have := outs_lenC (c := 12) (by decide) h ns
  omega
def sp_candidates (C CG : Addr) : Sp := fun vs H Q _ => ∃ (H0 : Hp) (c g kn ol ba fi : Addr) (bag : Bool) (names : List Str) (rs : List Rule) (wt : Str → Nat) (old kb : KB) (firsts : List Str) (n : Str), vs = [.ref c, .str n] ∧ RfAt C CG H0 H c g kn ol ba fi bag names rs wt old kb firsts ∧ n ∈ names ∧
  ∀ p H' (us : List Addr), H p = none → Same H H' → H' p = some (.lst (us.map V.ref)) → Paired (fun u m => H u = none ∧ H' u = some (.lst (m.map V.str))) us (cands bag rs wt kb firsts n) → Q (.ref p) H'
theorem ok_candidates (T : Txt K mg A) : FnOk P w K mg base CX0 3 A.a_Refining_candidates A.d_Refining_candidates ["self", "name"] (sp_candidates A.c_Refining A.c_Grammar) := by
  have G_lessening : FnOk P w K mg base CX0 2 A.a_lessening A.d_lessening ["grammar", "known", "name"] (sp_lessening A.c_Grammar) := ok_lessening T
  have G_put_out : FnOk P w K mg base CX0 1 A.a_put_out A.d_put_out ["kind", "base", "one"] sp_put_out := ok_put_out T
  have G_without : FnOk P w K mg base CX0 1 A.a_without A.d_without ["kind", "whole", "part"] sp_without := ok_without T
  refine T.F_Refining_candidates.ok sc_Refining_candidates (fun vs H Q E h => ?_) (fun cdv A0 outer s0 H vs Q E hr h => ?_)
  · obtain ⟨_, _, _, _, _, _, _, _, _, _, _, _, _, _, _, rfl, _⟩ := h
    rfl
  · obtain ⟨H0, c, g, kn, ol, ba, fi, bag, names, rs, wt, old, kb, firsts, n, rfl, rf, hn, q⟩ := h
    obtain ⟨dx, hc⟩ := rf.ins
    have gw := rf.gw
    have hnm : n ∈ ordW names wt := (ordW_perm names wt).mem_iff.mpr hn
    obtain ⟨q0, qs, hq0⟩ : ∃ q0 qs, lessR rs wt n = q0 :: qs := by
      obtain ⟨p, hp, he⟩ := gw.gw.less n hnm
      have hm : p ∈ lessR rs wt n := mem_lessR.mpr ⟨hp, he⟩
      cases e : lessR rs wt n with
      | nil => rw [e] at hm; cases hm
      | cons a b => exact ⟨a, b, rfl⟩
    have eC : cands bag rs wt kb firsts n = firsts.flatMap (candOf bag rs wt kb q0.1 (outK bag kb q0.2)) := by unfold cands; rw [hq0]
    refine ⟨_, (pss_cons (ps_asg (pe_ix (r := rIxL K) ix_list (pe_call G_lessening (hr.mono (by decide)) (by rfl) T.g_lessening T.F_lessening.kp T.b_lessening .nil pass0 (pa_cons (pe_fld (pv 0) rfl) (pa_cons (pe_fld (pv 0) rfl) (pa_cons (pv 1) pa_nil)))) pe_int (fun _ _ => rfl)) (pg_tup (by rfl) (pgs_cons (pg_name (i := 2) sc_Refining_candidates.nd rfl (Or.inl rfl)) (pgs_cons (pg_name (i := 3) sc_Refining_candidates.nd rfl (Or.inl rfl)) pgs_nil))))
 (pss_cons (ps_set (i := 4) sc_Refining_candidates.nd rfl (Or.inl rfl) (pe_call G_put_out (hr.mono (by decide)) (by rfl) T.g_put_out T.F_put_out.kp T.b_put_out .nil pass0 (pa_cons (pe_fld (pv 0) rfl) (pa_cons (pe_fld (pv 0) rfl) (pa_cons (pv 3) pa_nil)))))
 (pss_cons (ps_set (i := 5) sc_Refining_candidates.nd rfl (Or.inl rfl) (pe_lst pa_nil))
 (pss_cons (ps_for PassesOwn.never rfl (pi_list (pe_fld (pv 0) rfl)) (pg_name (i := 6) sc_Refining_candidates.nd rfl (Or.inl rfl))
 (pss_one (ps_for PassesOwn.never rfl (pi_list (pe_call G_lessening (hr.mono (by decide)) (by rfl) T.g_lessening T.F_lessening.kp T.b_lessening .nil pass0 (pa_cons (pe_fld (pv 0) rfl) (pa_cons (pe_fld (pv 0) rfl) (pa_cons (pv 6) pa_nil))))) (pg_tup (by rfl) (pgs_cons (pg_name (i := 7) sc_Refining_candidates.nd rfl (Or.inl rfl)) (pgs_cons (pg_name (i := 8) sc_Refining_candidates.nd rfl (Or.inl rfl)) pgs_nil)))
 (pss_cons (ps_set (i := 9) sc_Refining_candidates.nd rfl (Or.inl rfl) pe_non)
 (Evl.pss_cut (ps_if (pt_cmpR op_eq (pv 7) (pv 2) (nomark _)) (pss_one (ps_set (i := 9) sc_Refining_candidates.nd rfl (Or.inl rfl) (pe_call G_without (hr.mono (by decide)) (by rfl) T.g_without T.F_without.kp T.b_without .nil pass0 (pa_cons (pe_fld (pv 0) rfl) (pa_cons (pv 4) (pa_cons (pe_call G_put_out (hr.mono (by decide)) (by rfl) T.g_put_out T.F_put_out.kp T.b_put_out .nil pass0 (pa_cons (pe_fld (pv 0) rfl) (pa_cons (pe_fld (pv 0) rfl) (pa_cons (pv 8) pa_nil)))) pa_nil)))))) pss_nil)
 (pss_one (ps_if (pt_cmpR op_notN (pv 9) pe_non (nomark _)) (pss_one (ps_expr (pe_bm PySem.F.plainAttrs_list PySem.F.slot_list_append PySem.F.type_list_append mt_append (pv 5) (pa_cons (pe_call G_put_out (hr.mono (by decide)) (by rfl) T.g_put_out T.F_put_out.kp T.b_put_out .nil pass0 (pa_cons (pe_fld (pv 0) rfl) (pa_cons pe_dnewK (pa_cons (pe_op op_cat (pe_lst (pa_cons (pv 6) pa_nil)) (pv 9)) pa_nil)))) pa_nil)))) pss_nil)))))))
 (pss_one (ps_ret (pv 5))))))), ?_⟩
    refine ⟨_, rfl, c, A.c_Refining, dx, _, _, rfl, hc, T.cl_Refining, T.n_Refining_grammar, rgfs_grammar g (kd bag) kn ol ba fi, _, rfl, c, A.c_Refining, dx, _, _, rfl, hc, T.cl_Refining, T.n_Refining_known, rgfs_known g (kd bag) kn ol ba fi, _, rfl, g, kn, names, rs, wt, n, rfl, rf.gram, rf.known, hn, gw.rin, gw.sh, fun p1 H1 nr => ?_⟩
    obtain ⟨hp1, sm1, us1, hus1, hpr1⟩ := nr
    rw [hq0] at hpr1
    cases hpr1 with
    | @cons t0 _ ts0 _ ht0 hprs =>
    obtain ⟨_, w0, _, ht1, hw1⟩ := ht0
    have hq0m := mem_lessR.mp (show q0 ∈ lessR rs wt n by rw [hq0]; exact List.mem_cons_self)
    have hl0 : q0.2.length ≤ 1000 := (gw.sh.of n).2 q0 hq0m.1
    refine ⟨p1, _, _, _, rfl, rfl, SqL.of hus1, atI_nat (j := 0) rfl, t0, _, rfl, SqT.of ht1, rfl, _, _, rfl, _, _, rfl, rfl, ?_⟩
    have rf1 := rf.same sm1
    obtain ⟨kvb, hb1, hB1⟩ := rf1.atBase
    have hc1 := sm1 _ _ hc
    refine ⟨_, rfl, c, A.c_Refining, dx, _, _, rfl, hc1, T.cl_Refining, T.n_Refining_kind, rgfs_kind g (kd bag) kn ol ba fi, _, rfl, c, A.c_Refining, dx, _, _, rfl, hc1, T.cl_Refining, T.n_Refining_base, rgfs_base g (kd bag) kn ol ba fi, _, rfl, bag, ba, w0, kvb, kb, q0.2, rfl, hb1, hB1, rf.b12, hw1, by omega, fun pw H2 sm2 hpw0 hpw => ?_⟩
    have sm12 := sm1.trans sm2
    have hWl := outK_len rf.b12 bag hl0
    refine ⟨Nat.zero_le _, fun D hD => ?_⟩
    have smD := same_new hD (o := .lst [])
    have hDA : (upd H2 D (.lst [])) D = some (.lst []) := upd_same
    have hD0 : H D = none := sm12.free hD
    have npD : pw ≠ D := ne_of_none hpw hD
    have hpw2 := smD _ _ hpw
    have sm13 := sm12.trans smD
    generalize upd H2 D (.lst []) = H3 at smD hDA hpw2 sm13 ⊢
    clear sm2 smD hpw sm12 hD
    have rf3 := rf.same sm13
    refine ⟨_, rfl, c, A.c_Refining, dx, _, _, rfl, sm13 _ _ hc, T.cl_Refining, T.n_Refining_firsts, rgfs_firsts g (kd bag) kn ol ba fi, fi, rfl, ⟨_, SqL.of rf3.fst⟩, for_list (K := K) (a := fi) (xs := firsts.map V.str) (fun i σ' H' => ∃ (x6 x7 x8 x9 : Option V) (us : List Addr), σ' = [some (.ref c), some (.str n), some (.str q0.1), some (.ref w0), some (.ref pw), some (.ref D), x6, x7, x8, x9] ∧ Same H H' ∧ H' pw = some (.lst ((outK bag kb q0.2).map V.str)) ∧ H' D = some (.lst (us.map V.ref)) ∧ Paired (fun u m => H u = none ∧ u ≠ D ∧ H' u = some (.lst (m.map V.str))) us ((firsts.take i).flatMap (candOf bag rs wt kb q0.1 (outK bag kb q0.2)))) ?_ ?_ ?_ ?_⟩
    · exact ⟨_, _, _, _, [], rfl, sm13, hpw2, hDA, .nil⟩
    · rintro i σ' H' _ ⟨_, _, _, _, _, rfl, sm, _⟩
      exact SqL.of (sm _ _ rf.fst)
    · rintro i v σ' H4 hi ⟨x6, x7, x8, x9, us, rfl, sm4, hpw4, hD4, hU4⟩
      obtain ⟨f, hf, rfl⟩ := map_at hi
      have hfn := rf.fin f (List.mem_of_getElem? hf)
      have rf4 := rf.same sm4
      have hc4 := sm4 _ _ hc
      have hil : i < firsts.length := (List.getElem?_eq_some_iff.mp hf).1
      have hfl := rf.fln
      have hul4 : us.length ≤ 100 * i := by
        rw [paired_len hU4]
        refine Nat.le_trans (flat_len2 (k := 100) (fun x => ?_) _) ?_
        · rw [candOf_eq]
          exact Nat.le_trans (List.length_filterMap_le _ _) (lessR_len gw.sh wt x)
        · rw [List.length_take]
          exact Nat.mul_le_mul_left _ (Nat.min_le_left _ _)
      refine ⟨_, rfl, c, A.c_Refining, dx, _, _, rfl, hc4, T.cl_Refining, T.n_Refining_grammar, rgfs_grammar g (kd bag) kn ol ba fi, _, rfl, c, A.c_Refining, dx, _, _, rfl, hc4, T.cl_Refining, T.n_Refining_known, rgfs_known g (kd bag) kn ol ba fi, _, rfl, g, kn, names, rs, wt, f, rfl, rf4.gram, rf4.known, hfn, gw.rin, gw.sh, fun p5 H5 nr => ?_⟩
      obtain ⟨hp5, sm5, us5, hus5, hpr5⟩ := nr
      have hDN5 := sm5 _ _ hD4
      have n5D : p5 ≠ D := fun z => by rw [z, hD4] at hp5; cases hp5
      refine ⟨p5, rfl, ⟨_, SqL.of hus5⟩, for_list (K := K) (a := p5) (xs := us5.map V.ref) (fun j σ' H' => ∃ (x7 x8 x9 : Option V) (vs : List Addr), σ' = [some (.ref c), some (.str n), some (.str q0.1), some (.ref w0), some (.ref pw), some (.ref D), some (.str f), x7, x8, x9] ∧ (∀ b o, H5 b = some o → b ≠ D → H' b = some o) ∧ H' D = some (.lst (vs.map V.ref)) ∧ Paired (fun u m => H u = none ∧ u ≠ D ∧ H' u = some (.lst (m.map V.str))) vs ((firsts.take i).flatMap (candOf bag rs wt kb q0.1 (outK bag kb q0.2)) ++ ((lessR rs wt f).take j).filterMap (candF bag kb q0.1 (outK bag kb q0.2) f))) ?_ ?_ ?_ ?_⟩
      · refine ⟨_, _, _, us, rfl, fun b o h _ => h, hDN5, ?_⟩
        rw [List.take_zero, List.filterMap_nil, List.append_nil]
        exact Paired.mapP hU4 fun _ _ ⟨a, b, c⟩ => ⟨a, b, sm5 _ _ c⟩
      · rintro j σ' H' _ ⟨_, _, _, _, rfl, kp, _⟩
        exact SqL.of (kp _ _ hus5 n5D)
      · rintro j v2 σ' H6 hj ⟨x7, x8, x9, vs, rfl, kp6, hD6, hU6⟩
        obtain ⟨u, hu, rfl⟩ := map_at hj
        obtain ⟨r, hr1, hu0, wr, hwr0, hwr1, hwr2⟩ := paired_get hpr5 hu
        have hrm := mem_lessR.mp (List.mem_of_getElem? hr1)
        have hrl : r.2.length ≤ 1000 := (gw.sh.of f).2 r hrm.1
        have nuD : u ≠ D := fun z => by rw [z, hD4] at hu0; cases hu0
        have nwD : wr ≠ D := fun z => by rw [z, hD4] at hwr0; cases hwr0
        have sm6 : Same H H6 := fun b o h => kp6 b o (sm5 _ _ (sm4 _ _ h)) (ne_of_none h hD0)
        have hwr6 := kp6 _ _ hwr2 nwD
        have hpw6 := kp6 _ _ (sm5 _ _ hpw4) npD
        have rf6 := rf.same sm6
        have hc6 := sm6 _ _ hc
        obtain ⟨kvb6, hb6, hB6⟩ := rf6.atBase
        have hvl : vs.length ≤ 100 * i + 100 := by
          rw [paired_len hU6, List.length_append]
          have h1 := paired_len hU4
          have h2 : (((lessR rs wt f).take j).filterMap (candF bag kb q0.1 (outK bag kb q0.2) f)).length ≤ 100 := by
            refine Nat.le_trans (List.length_filterMap_le _ _) ?_
            rw [List.length_take]
            exact Nat.le_trans (Nat.min_le_right _ _) (lessR_len gw.sh wt f)
          omega
        refine ⟨u, _, rfl, SqT.of (kp6 _ _ hwr1 nuD), rfl, _, _, rfl, _, _, rfl, rfl, ?_⟩
        refine ⟨fun σ' H' => ∃ rv : V, σ' = [some (.ref c), some (.str n), some (.str q0.1), some (.ref w0), some (.ref pw), some (.ref D), some (.str f), some (.str r.1), some (.ref wr), some rv] ∧ Same H6 H' ∧ ((rv = .non ∧ candF bag kb q0.1 (outK bag kb q0.2) f r = none) ∨ ∃ (rest : List Str) (ra : Addr), rv = .ref ra ∧ H' ra = some (.lst (rest.map V.str)) ∧ candF bag kb q0.1 (outK bag kb q0.2) f r = some (asK bag (f :: rest)) ∧ rest.length ≤ 12000), ?_, ?_⟩
        · refine ⟨_, rfl, _, rfl, rfl, _, rfl, iteB (fun hcc => ?_) (fun hcc => ?_)⟩
          · have er : r.1 = q0.1 := V.str.inj (of_decide_eq_true hcc)
            refine ⟨_, rfl, c, A.c_Refining, dx, _, _, rfl, hc6, T.cl_Refining, T.n_Refining_kind, rgfs_kind g (kd bag) kn ol ba fi, _, rfl, _, rfl, c, A.c_Refining, dx, _, _, rfl, hc6, T.cl_Refining, T.n_Refining_kind, rgfs_kind g (kd bag) kn ol ba fi, _, rfl, c, A.c_Refining, dx, _, _, rfl, hc6, T.cl_Refining, T.n_Refining_base, rgfs_base g (kd bag) kn ol ba fi, _, rfl, bag, ba, wr, kvb6, kb, r.2, rfl, hb6, hB6, rf.b12, hwr6, by omega, fun p7 H7 sm7 hp70 hp7 => ?_⟩
            have hRl := outK_len rf.b12 bag hrl
            refine ⟨bag, pw, p7, _, _, rfl, sm7 _ _ hpw6, hp7, by omega, by omega, fun hnone H8 sm8 => ?_, fun rest hrest p8 H8 hp80 sm8 hp8 => ?_⟩
            · exact ⟨.non, rfl, sm7.trans sm8, .inl ⟨rfl, by unfold candF; rw [if_pos er, hnone]; rfl⟩⟩
            · have hlr := (without_perm hrest).length_eq
              rw [List.length_append] at hlr
              exact ⟨.ref p8, rfl, sm7.trans sm8, .inr ⟨rest, p8, rfl, hp8, by unfold candF; rw [if_pos er, hrest]; rfl, by omega⟩⟩
          · have er : ¬ r.1 = q0.1 := fun z => (of_decide_eq_false hcc) (by rw [z])
            exact ⟨.non, rfl, Same.refl _, .inl ⟨rfl, by unfold candF; rw [if_neg er]⟩⟩
        rintro σ' H7 ⟨rv, rfl, sm7, hrv⟩
        have hD7 := sm7 _ _ hD6
        rcases hrv with ⟨rfl, hcn⟩ | ⟨rest, ra, rfl, hra, hcs, hrl7⟩
        · refine ⟨_, rfl, rfl, _, rfl, itF (by rw [decide_eq_true rfl]; rfl) ?_⟩
          refine ⟨_, _, _, vs, rfl, fun b o h hb => sm7 _ _ (kp6 b o h hb), hD7, ?_⟩
          rw [fmap_take hr1, hcn, List.append_nil]
          exact Paired.mapP hU6 fun _ _ ⟨a, b, c⟩ => ⟨a, b, sm7 _ _ c⟩
        · refine ⟨_, rfl, rfl, _, rfl, itT (by rw [decide_eq_false (fun z => by cases z)]; rfl) ?_⟩
          refine ⟨_, rfl, .inl ⟨rfl, _, SqL.of hD7⟩, _, rfl, c, A.c_Refining, dx, _, _, rfl, sm7 _ _ hc6, T.cl_Refining, T.n_Refining_kind, rgfs_kind g (kd bag) kn ol ba fi, fun d hd => ?_⟩
          have sm8 := same_new hd (o := .dK [])
          refine ⟨_, rfl, sl2 (by show 1 ≤ 1000000; decide), fun p8 hp8 => ?_⟩
          have sm9 := same_new hp8 (o := .lst [V.str f])
          refine ⟨_, rfl, p8, ra, _, _, rfl, rfl, upd_same, sm9 _ _ (sm8 _ _ hra), by rw [List.length_map]; exact sl2 (by show 1 + rest.length ≤ 1000000; omega), fun p9 hp9 => ?_⟩
          have smA := same_new hp9 (o := .lst ([V.str f] ++ rest.map V.str))
          have sm8A := sm8.trans (sm9.trans smA)
          have hd9 := (sm9.trans smA) _ _ (upd_same : (upd H7 d (.dK [])) d = _)
          refine ⟨bag, d, p9, [], [], f :: rest, rfl, hd9, .nil, fun m h => (nomatch h), upd_same, by rw [List.length_cons]; omega, fun pB HB smB hpB0 hpB => ?_⟩
          have smZ := sm8A.trans smB
          have nBD : pB ≠ D := fun z => by rw [z, sm8A _ _ hD7] at hpB0; cases hpB0
          refine ⟨D, _, _, rfl, rfl, smZ _ _ hD7, by rw [List.length_map]; exact sl1 (by omega), ?_⟩
          refine ⟨_, _, _, vs ++ [pB], rfl, fun b o h hb => by rw [upd_ne hb]; exact smZ _ _ (sm7 _ _ (kp6 b o h hb)), by rw [upd_same, List.map_append]; rfl, ?_⟩
          rw [fmap_take hr1, hcs, ← List.append_assoc]
          rw [outK_nil] at hpB
          refine paired_app (F := fun u m => H u = none ∧ u ≠ D ∧ (upd HB D _) u = some (.lst (m.map V.str))) ⟨(sm6.trans (sm7.trans sm8A)).free hpB0, nBD, by rw [upd_ne nBD]; exact hpB⟩ (Paired.mapP hU6 fun u m ⟨a1, a2, a3⟩ => ⟨a1, a2, by rw [upd_ne a2]; exact smZ _ _ (sm7 _ _ a3)⟩)
      · rintro σ' H6 ⟨x7, x8, x9, vs, rfl, kp6, hD6, hU6⟩
        rw [List.length_map, paired_len hpr5, List.take_length, ← candOf_eq] at hU6
        refine ⟨_, _, _, _, vs, rfl, fun b o h => kp6 b o (sm5 _ _ (sm4 _ _ h)) (ne_of_none h hD0), kp6 _ _ (sm5 _ _ hpw4) npD, hD6, ?_⟩
        rw [flat_take hf]
        exact hU6
    · rintro σ' H4 ⟨x6, x7, x8, x9, us, rfl, sm4, hpw4, hD4, hU4⟩
      rw [List.length_map, List.take_length, ← eC] at hU4
      exact ⟨_, rfl, q D H4 us hD0 sm4 hD4 (Paired.mapP hU4 fun _ _ ⟨a, _, b⟩ => ⟨a, b⟩)⟩
end
end SG
namespace SG
open PySem PySem.Spec PyProof.Rows L2 LamX
section
variable {P : Program} {w : World} {K : PySem.W.Frag} {mg : Str → Option Value} {base : Heap} {A : Ad}
def sp_passes (C CG : Addr) : Sp := fun vs H Q _ => ∃ (H0 : Hp) (c g kn ol ba fi m : Addr) (bag : Bool) (names : List Str) (rs : List Rule) (wt : Str → Nat) (old kb : KB) (firsts making : List Str) (n : Str), vs = [.ref c, .str n, .ref m] ∧ RfAt C CG H0 H c g kn ol ba fi bag names rs wt old kb firsts ∧ n ∈ names ∧ H m = some (.lst (making.map V.str)) ∧ (∀ x ∈ making, x ∈ names) ∧ making.length ≤ 1000 ∧
  ∀ H', Same H H' → Q (.bl (passes bag rs wt old kb n making)) H'
theorem ok_passes (T : Txt K mg A) : FnOk P w K mg base CX0 7 A.a_Refining_passes A.d_Refining_passes ["self", "name", "making"] (sp_passes A.c_Refining A.c_Grammar) := by
  have G_put_out : FnOk P w K mg base CX0 1 A.a_put_out A.d_put_out ["kind", "base", "one"] sp_put_out := ok_put_out T
  have G_Refining_outs_by : FnOk P w K mg base CX0 6 A.a_Refining_outs_by A.d_Refining_outs_by ["self", "base", "one", "less"] (sp_outs_by A.c_Refining A.c_Grammar) := ok_outs_by T
  refine T.F_Refining_passes.ok sc_Refining_passes (fun vs H Q E h => ?_) (fun cdv A0 outer s0 H vs Q E hr h => ?_)
  · obtain ⟨_, _, _, _, _, _, _, _, _, _, _, _, _, _, _, _, _, rfl, _⟩ := h
    rfl
  · obtain ⟨H0, c, g, kn, ol, ba, fi, m, bag, names, rs, wt, old, kb, firsts, making, n, rfl, rf, hn, hm, hmi, hml, q⟩ := h
    have hu64 := hu64_of hr
    obtain ⟨dx, hc⟩ := rf.ins
    obtain ⟨kvo, ho, hO⟩ := rf.atOld
    have hn1 : ∀ x ∈ [n], x ∈ names := fun x hx => by rw [List.mem_singleton.mp hx]; exact hn
    refine ⟨_, (pss_cons (ps_if (pt_cmpR (r := rNeP K) (op_neP hu64) (pe_call G_put_out (hr.mono (by decide)) (by rfl) T.g_put_out T.F_put_out.kp T.b_put_out .nil pass0 (pa_cons (pe_fld (pv 0) rfl) (pa_cons (pe_fld (pv 0) rfl) (pa_cons (pe_lst (pa_cons (pv 1) pa_nil)) pa_nil)))) (pe_call G_put_out (hr.mono (by decide)) (by rfl) T.g_put_out T.F_put_out.kp T.b_put_out .nil pass0 (pa_cons (pe_fld (pv 0) rfl) (pa_cons (pe_fld (pv 0) rfl) (pa_cons (pv 2) pa_nil)))) (nomark _)) (pss_one (ps_ret pe_bl)) pss_nil)
 (pss_cons (ps_for PassesOwn.never rfl (pi_list (pe_lst (pa_cons (pe_tup (pa_cons (pe_fld (pv 0) rfl) (pa_cons pe_bl pa_nil))) (pa_cons (pe_tup (pa_cons (pe_fld (pv 0) rfl) (pa_cons pe_bl pa_nil))) pa_nil)))) (pg_tup (by rfl) (pgs_cons (pg_name (i := 3) sc_Refining_passes.nd rfl (Or.inl rfl)) (pgs_cons (pg_name (i := 4) sc_Refining_passes.nd rfl (Or.inl rfl)) pgs_nil)))
 (pss_one (ps_if (pt_cmpR (r := rNeP K) (op_neP hu64) (pe_meth (pv 0) T.cl_Refining T.m_Refining_outs_by G_Refining_outs_by (hr.mono (by decide)) T.b_Refining_outs_by .nil pass0 (pa_cons (pv 3) (pa_cons (pe_lst (pa_cons (pv 1) pa_nil)) (pa_cons (pv 4) pa_nil)))) (pe_meth (pv 0) T.cl_Refining T.m_Refining_outs_by G_Refining_outs_by (hr.mono (by decide)) T.b_Refining_outs_by .nil pass0 (pa_cons (pv 3) (pa_cons (pv 2) (pa_cons (pv 4) pa_nil)))) (nomark _)) (pss_one (ps_ret pe_bl)) pss_nil)))
 (pss_one (ps_ret pe_bl)))), ?_⟩
    refine ⟨_, rfl, c, A.c_Refining, dx, _, _, rfl, hc, T.cl_Refining, T.n_Refining_kind, rgfs_kind g (kd bag) kn ol ba fi, _, rfl, c, A.c_Refining, dx, _, _, rfl, hc, T.cl_Refining, T.n_Refining_old, rgfs_old g (kd bag) kn ol ba fi, _, rfl, sl2 (by show 1 ≤ 1000000; decide), fun p1 hp1 => ?_⟩
    have sm1 := same_new hp1 (o := .lst [V.str n])
    refine ⟨bag, ol, p1, kvo, old, [n], rfl, sm1 _ _ ho, hO.same sm1, rf.o12, upd_same, by show 1 ≤ 50000; decide, fun p2 H2 sm2 hp2 h2 => ?_⟩
    have sm12 := sm1.trans sm2
    refine ⟨_, rfl, c, A.c_Refining, dx, _, _, rfl, sm12 _ _ hc, T.cl_Refining, T.n_Refining_kind, rgfs_kind g (kd bag) kn ol ba fi, _, rfl, c, A.c_Refining, dx, _, _, rfl, sm12 _ _ hc, T.cl_Refining, T.n_Refining_old, rgfs_old g (kd bag) kn ol ba fi, _, rfl, bag, ol, m, kvo, old, making, rfl, sm12 _ _ ho, hO.same sm12, rf.o12, sm12 _ _ hm, by omega, fun p3 H3 sm3 hp3 h3 => ?_⟩
    have sm13 := sm12.trans sm3
    refine ⟨eSs (outK bag old [n]), eSs (outK bag old making), dp_Ss (sm3 _ _ h2), dp_Ss h3, Nat.le_trans (dep_Ss _) (by decide), _, rfl, ?_⟩
    rw [enc_Ss]
    by_cases c1 : outK bag old [n] = outK bag old making
    · rw [decide_eq_true c1]
      refine iteF ?_
      clear sm1 sm2 sm12 h2 h3 hp1 hp2 hp3
      have rf3 := rf.same sm13
      have hc3 := sm13 _ _ hc
      refine ⟨_, rfl, c, A.c_Refining, dx, _, _, rfl, hc3, T.cl_Refining, T.n_Refining_old, rgfs_old g (kd bag) kn ol ba fi, sl2 (by show 2 ≤ 1000000; decide), fun t1 ht1 => ?_⟩
      have sm4 := same_new ht1 (o := .tup [V.ref ol, V.bl false])
      refine ⟨_, rfl, c, A.c_Refining, dx, _, _, rfl, sm4 _ _ hc3, T.cl_Refining, T.n_Refining_base, rgfs_base g (kd bag) kn ol ba fi, sl2 (by show 2 ≤ 1000000; decide), fun t2 ht2 => ?_⟩
      have sm5 := same_new ht2 (o := .tup [V.ref ba, V.bl true])
      refine ⟨sl2 (by show 2 ≤ 1000000; decide), fun l hl => ?_⟩
      have sm6 := same_new hl (o := .lst [V.ref t1, V.ref t2])
      have hlA : (upd (upd (upd H3 t1 (.tup [V.ref ol, V.bl false])) t2 (.tup [V.ref ba, V.bl true])) l (.lst [V.ref t1, V.ref t2])) l = some (.lst [V.ref t1, V.ref t2]) := upd_same
      have ht1A := (sm5.trans sm6) _ _ (upd_same : (upd H3 t1 (.tup [V.ref ol, V.bl false])) t1 = _)
      have ht2A := sm6 _ _ (upd_same : (upd (upd H3 t1 (.tup [V.ref ol, V.bl false])) t2 (.tup [V.ref ba, V.bl true])) t2 = _)
      have sm16 := sm13.trans (sm4.trans (sm5.trans sm6))
      generalize upd (upd (upd H3 t1 (.tup [V.ref ol, V.bl false])) t2 (.tup [V.ref ba, V.bl true])) l (.lst [V.ref t1, V.ref t2]) = H6 at hlA ht1A ht2A sm16 ⊢
      refine ⟨l, rfl, ⟨_, SqL.of hlA⟩, for_list (K := K) (a := l) (xs := [V.ref t1, V.ref t2]) (fun i σ' H' => ∃ (x3 x4 : Option V), σ' = [some (.ref c), some (.str n), some (.ref m), x3, x4] ∧ Same H6 H' ∧ (1 ≤ i → outsBy bag rs wt old [n] false = outsBy bag rs wt old making false) ∧ (2 ≤ i → outsBy bag rs wt kb [n] true = outsBy bag rs wt kb making true)) ?_ ?_ ?_ ?_⟩
      · exact ⟨_, _, rfl, Same.refl _, fun h => absurd h (by decide), fun h => absurd h (by decide)⟩
      · rintro i σ' H' _ ⟨_, _, rfl, sm, _⟩
        exact SqL.of (sm _ _ hlA)
      · rintro i v σ' H7 hi ⟨x3, x4, rfl, sm7, hc1, hc2⟩
        have smA := sm16.trans sm7
        have rfA := rf.same smA
        have key : ∃ (t b : Addr) (less : Bool) (kvs : List (Key × V)) (kb2 : KB), v = .ref t ∧ H6 t = some (.tup [V.ref b, V.bl less]) ∧ H7 b = some (.dK kvs) ∧ BaseAt H7 kvs kb2 ∧ (∀ m ∈ kb2, m.2.length ≤ 12) ∧
            ((outsBy bag rs wt kb2 [n] less = outsBy bag rs wt kb2 making less) → ((1 ≤ i + 1 → outsBy bag rs wt old [n] false = outsBy bag rs wt old making false) ∧ (2 ≤ i + 1 → outsBy bag rs wt kb [n] true = outsBy bag rs wt kb making true))) ∧
            (¬ (outsBy bag rs wt kb2 [n] less = outsBy bag rs wt kb2 making less) → passes bag rs wt old kb n making = false) := by
          match i, hi, hc1 with
          | 0, hi, _ =>
            obtain ⟨k7, g1, g2⟩ := rfA.atOld
            exact ⟨t1, ol, false, k7, old, (Option.some.inj hi).symm, ht1A, g1, g2, rf.o12, fun h => ⟨fun _ => h, fun h => absurd h (by decide)⟩, fun h => by unfold passes; rw [decide_eq_false h]; simp⟩
          | 1, hi, hc1 =>
            obtain ⟨k7, g1, g2⟩ := rfA.atBase
            exact ⟨t2, ba, true, k7, kb, (Option.some.inj hi).symm, ht2A, g1, g2, rf.b12, fun h => ⟨fun _ => hc1 (by decide), fun _ => h⟩, fun h => by unfold passes; rw [decide_eq_false h]; simp⟩
          | i + 2, hi, _ => cases hi
        obtain ⟨t, b, less, kvs, kb2, rfl, ht, hb, hB, h12, good, bad⟩ := key
        have hcA := smA _ _ hc
        refine ⟨t, _, rfl, SqT.of (sm7 _ _ ht), rfl, _, _, rfl, _, _, rfl, rfl, ?_⟩
        refine ⟨_, rfl, c, _, _, rfl, hcA, rgfs_no g (kd bag) kn ol ba fi (by decide +kernel) (by decide +kernel) (by decide +kernel) (by decide +kernel) (by decide +kernel) (by decide +kernel), _, rfl, _, rfl, sl2 (by show 1 ≤ 1000000; decide), fun p8 hp8 => ?_⟩
        have sm8 := same_new hp8 (o := .lst [V.str n])
        refine ⟨_, rfl, H0, c, g, kn, ol, ba, fi, b, p8, bag, less, names, rs, wt, old, kb, firsts, [n], kvs, kb2, rfl, rfA.same sm8, sm8 _ _ hb, hB.same sm8, h12, upd_same, hn1, by show 1 ≤ 1000; decide, fun p9 H9 hp9 sm9 h9 => ?_⟩
        have sm89 := sm8.trans sm9
        refine ⟨_, rfl, c, _, _, rfl, sm89 _ _ hcA, rgfs_no g (kd bag) kn ol ba fi (by decide +kernel) (by decide +kernel) (by decide +kernel) (by decide +kernel) (by decide +kernel) (by decide +kernel), _, rfl, _, rfl, _, rfl, H0, c, g, kn, ol, ba, fi, b, m, bag, less, names, rs, wt, old, kb, firsts, making, kvs, kb2, rfl, rfA.same sm89, sm89 _ _ hb, hB.same sm89, h12, sm89 _ _ (smA _ _ hm), hmi, hml, fun pA HA hpA smA2 hA => ?_⟩
        refine ⟨eL eRow _, eL eRow _, dp_rows (h9.same smA2), dp_rows hA, Nat.le_trans (dep_L dep_Row _) (by decide), _, rfl, ?_⟩
        rw [enc_L enc_Row]
        by_cases c2 : outsBy bag rs wt kb2 [n] less = outsBy bag rs wt kb2 making less
        · rw [decide_eq_true c2]
          refine iteF ?_
          obtain ⟨z1, z2⟩ := good c2
          exact ⟨_, _, rfl, sm7.trans (sm89.trans smA2), z1, z2⟩
        · rw [decide_eq_false c2]
          refine iteT ?_
          have := q HA (smA.trans (sm89.trans smA2))
          rw [bad c2] at this
          exact this
      · rintro σ' H7 ⟨x3, x4, rfl, sm7, hc1, hc2⟩
        have e : passes bag rs wt old kb n making = true := by
          unfold passes
          rw [decide_eq_true c1, decide_eq_true (hc1 (by show 1 ≤ 2; decide)), decide_eq_true (hc2 (by show 2 ≤ 2; decide))]
          rfl
        have := q H7 (sm16.trans sm7)
        rw [e] at this
        exact this
    · rw [decide_eq_false c1]
      refine iteT ?_
      have e : passes bag rs wt old kb n making = false := by
        unfold passes
        rw [decide_eq_false c1]
        rfl
      have := q H3 sm13
      rw [e] at this
      exact this
end
end SG
namespace SG
open PySem PySem.Spec PyProof.Rows L2 LamX
section
variable {P : Program} {w : World} {K : PySem.W.Frag} {mg : Str → Option Value} {base : Heap} {A : Ad}
theorem find_at {α : Type} {p : α → Bool} : ∀ {xs : List α} {i : Nat} {x : α}, (∀ j y, j < i → xs[j]? = some y → p y = false) → xs[i]? = some x → p x = true → xs.find? p = some x
  | [], _, _, _, h, _ => by simp at h
  | y :: r, 0, x, _, h, hp => by
    have e : y = x := Option.some.inj h
    rw [e, List.find?_cons_of_pos hp]
  | y :: r, i + 1, x, k, h, hp => by
    have h0 := k 0 y (by omega) rfl
    rw [List.find?_cons_of_neg (by rw [h0]; exact Bool.false_ne_true)]
    exact find_at (xs := r) (fun j z hj hz => k (j + 1) z (by omega) hz) h hp
theorem find_no {α : Type} {p : α → Bool} {xs : List α} (h : ∀ (j : Nat) (y : α), xs[j]? = some y → p y = false) : xs.find? p = none := by
  rw [List.find?_eq_none]
  intro x hx
  obtain ⟨j, hj⟩ := List.mem_iff_getElem?.mp hx
  rw [h j x hj]
  exact Bool.false_ne_true
def sp_take (C CG : Addr) : Sp := fun vs H Q _ => ∃ (H0 : Hp) (c g kn ol ba fi : Addr) (bag : Bool) (names : List Str) (rs : List Rule) (wt : Str → Nat) (old kb : KB) (firsts : List Str) (n : Str), vs = [.ref c, .str n] ∧ RfAt C CG H0 H c g kn ol ba fi bag names rs wt old kb firsts ∧ n ∈ names ∧ n ∉ kb.map (·.1) ∧ kb.length < 1000 ∧ firsts.length < 1000 ∧
  (∀ m ∈ cands bag rs wt kb firsts n, (∀ x ∈ m, x ∈ names) ∧ m.length ≤ 12) ∧ ∀ H', (∀ b o, H b = some o → b ≠ ba → b ≠ fi → H' b = some o) → RfAt C CG H0 H' c g kn ol ba fi bag names rs wt old (takeR bag rs wt old (kb, firsts) n).1 (takeR bag rs wt old (kb, firsts) n).2 → Q .non H'
theorem ok_take (T : Txt K mg A) : FnOk P w K mg base CX0 8 A.a_Refining_take A.d_Refining_take ["self", "name"] (sp_take A.c_Refining A.c_Grammar) := by
  have G_Refining_candidates : FnOk P w K mg base CX0 3 A.a_Refining_candidates A.d_Refining_candidates ["self", "name"] (sp_candidates A.c_Refining A.c_Grammar) := ok_candidates T
  have G_Refining_passes : FnOk P w K mg base CX0 7 A.a_Refining_passes A.d_Refining_passes ["self", "name", "making"] (sp_passes A.c_Refining A.c_Grammar) := ok_passes T
  refine T.F_Refining_take.ok sc_Refining_take (fun vs H Q E h => ?_) (fun cdv A0 outer s0 H vs Q E hr h => ?_)
  · obtain ⟨_, _, _, _, _, _, _, _, _, _, _, _, _, _, _, rfl, _⟩ := h
    rfl
  · obtain ⟨H0, c, g, kn, ol, ba, fi, bag, names, rs, wt, old, kb, firsts, n, rfl, rf, hn, hnk, hkl, hfl, hcd, q⟩ := h
    have hu := hu_of hr
    obtain ⟨dx, hc⟩ := rf.ins
    refine ⟨_, (pss_cons (ps_for PassesOwn.never rfl (pi_list (pe_meth (pv 0) T.cl_Refining T.m_Refining_candidates G_Refining_candidates (hr.mono (by decide)) T.b_Refining_candidates .nil pass0 (pa_cons (pv 1) pa_nil))) (pg_name (i := 2) sc_Refining_take.nd rfl (Or.inl rfl))
 (pss_one (ps_if (pt_val (pe_meth (pv 0) T.cl_Refining T.m_Refining_passes G_Refining_passes (hr.mono (by decide)) T.b_Refining_passes .nil pass0 (pa_cons (pv 1) (pa_cons (pv 2) pa_nil)))) (pss_cons (ps_dput hu (pe_fld (pv 0) rfl) (pv 1) (pv 2) rfl)
 (pss_one ps_retN)) pss_nil)))
 (pss_one (ps_expr (pe_bm PySem.F.plainAttrs_list PySem.F.slot_list_append PySem.F.type_list_append mt_append (pe_fld (pv 0) rfl) (pa_cons (pv 1) pa_nil))))), ?_⟩
    refine ⟨_, rfl, c, _, _, rfl, hc, rgfs_no g (kd bag) kn ol ba fi (by decide +kernel) (by decide +kernel) (by decide +kernel) (by decide +kernel) (by decide +kernel) (by decide +kernel), _, rfl, H0, c, g, kn, ol, ba, fi, bag, names, rs, wt, old, kb, firsts, n, rfl, rf, hn, fun p H1 us hp0 sm1 hp hU => ?_⟩
    refine ⟨p, rfl, ⟨_, SqL.of hp⟩, for_list (K := K) (a := p) (xs := us.map V.ref) (fun i σ' H' => ∃ x2 : Option V, σ' = [some (.ref c), some (.str n), x2] ∧ Same H1 H' ∧ ∀ j y, j < i → (cands bag rs wt kb firsts n)[j]? = some y → passes bag rs wt old kb n y = false) ?_ ?_ ?_ ?_⟩
    · exact ⟨_, rfl, Same.refl _, fun j y h => absurd h (Nat.not_lt_zero _)⟩
    · rintro i σ' H' _ ⟨_, rfl, sm, _⟩
      exact SqL.of (sm _ _ hp)
    · rintro i v σ' H2 hi ⟨x2, rfl, sm2, hno⟩
      obtain ⟨u, hu1, rfl⟩ := map_at hi
      obtain ⟨mk1, hm1, hu0, hum⟩ := paired_get hU hu1
      obtain ⟨hmi, hml⟩ := hcd mk1 (List.mem_of_getElem? hm1)
      have sm12 := sm1.trans sm2
      have hc2 := sm12 _ _ hc
      refine ⟨_, rfl, c, _, _, rfl, hc2, rgfs_no g (kd bag) kn ol ba fi (by decide +kernel) (by decide +kernel) (by decide +kernel) (by decide +kernel) (by decide +kernel) (by decide +kernel), _, rfl, _, rfl, H0, c, g, kn, ol, ba, fi, u, bag, names, rs, wt, old, kb, firsts, mk1, n, rfl, rf.same sm12, hn, sm2 _ _ hum, hmi, by omega, fun H3 sm3 => ⟨_, rfl, iteB (fun hpass => ?_) (fun hpass => ?_)⟩⟩
      · have sm13 := sm12.trans sm3
        have rf3 := rf.same sm13
        obtain ⟨kvb, hb3, hB3⟩ := rf3.atBase
        have hum3 := sm3 _ _ (sm2 _ _ hum)
        have hfd := find_at hno hm1 hpass
        have hkvl : kvb.length < 1000 := by rw [paired_len hB3]; exact hkl
        refine ⟨_, rfl, _, rfl, c, A.c_Refining, dx, _, _, rfl, sm13 _ _ hc, T.cl_Refining, T.n_Refining_base, rgfs_base g (kd bag) kn ol ba fi, _, rfl, ba, _, rfl, DPut.k (k := Sum.inr n) hb3 (sl1 (by omega)), ?_⟩
        refine q _ (fun b o h hb hf => by rw [upd_ne hb]; exact sm13 _ _ h) ?_
        have e : takeR bag rs wt old (kb, firsts) n = (kb ++ [(n, mk1)], firsts) := by unfold takeR; rw [hfd]
        rw [e]
        exact rf.put sm13 hb3 hu0 hum3 hnk hml hkl
      · refine ⟨_, rfl, sm2.trans sm3, fun j y hj hy => ?_⟩
        rcases Nat.lt_or_ge j i with h | h
        · exact hno j y h hy
        · have e : j = i := by omega
          subst e
          rw [hm1] at hy
          rw [← Option.some.inj hy]
          exact hpass
    · rintro σ' H2 ⟨x2, rfl, sm2, hno⟩
      have sm12 := sm1.trans sm2
      have rf2 := rf.same sm12
      have hfd : (cands bag rs wt kb firsts n).find? (passes bag rs wt old kb n) = none := find_no fun j y hy => hno j y (by
        have := (List.getElem?_eq_some_iff.mp hy).1
        rw [List.length_map, paired_len hU]
        exact this) hy
      refine ⟨_, rfl, c, A.c_Refining, dx, _, _, rfl, sm12 _ _ hc, T.cl_Refining, T.n_Refining_firsts, rgfs_firsts g (kd bag) kn ol ba fi, .inl ⟨rfl, _, SqL.of rf2.fst⟩, _, rfl, fi, _, _, rfl, rfl, rf2.fst, by rw [List.length_map]; exact sl1 (by omega), ?_⟩
      refine q _ (fun b o h hb hf => by rw [upd_ne hf]; exact sm12 _ _ h) ?_
      have e : takeR bag rs wt old (kb, firsts) n = (kb, firsts ++ [n]) := by unfold takeR; rw [hfd]
      rw [e]
      have := rf2.push hn hfl
      rw [List.map_append] at this
      exact this
def sp_Rf_init (C : Addr) : Sp := fun vs H Q _ => ∃ (c dx g kn ol : Addr) (kind : Str), vs = [.ref c, .ref g, .str kind, .ref kn, .ref ol] ∧ H c = some (.ins C dx []) ∧ ∀ ba fi H', (∀ b o, H b = some o → b ≠ c → H' b = some o) → H ba = none → H fi = none → ba ≠ fi → H' c = some (.ins C dx (rgfs g kind kn ol ba fi)) → H' ba = some (.dK []) → H' fi = some (.lst []) → Q .non H'
theorem ok_Rf_init (T : Txt K mg A) : FnOk P w K mg base CX0 1 A.a_Refining___init__ A.d_Refining___init__ ["self", "grammar", "kind", "known", "old"] (sp_Rf_init A.c_Refining) := by
  refine T.F_Refining___init__.ok sc_Refining___init__ (fun vs H Q E h => ?_) (fun cdv A0 outer s H vs Q E hr h => ?_)
  · obtain ⟨_, _, _, _, _, _, rfl, _⟩ := h
    rfl
  · obtain ⟨c, dx, g, kn, ol, kind, rfl, hc, q⟩ := h
    have lp : ∀ (fs : List (Str × V)) (f : Str) (v : V), (putF f v fs).length ≤ fs.length + 1 := fun fs f v => length_putF f v fs
    refine ⟨_, (pss_cons (ps_fld (pv 0) (pv 1) rfl)
 (pss_cons (ps_fld (pv 0) (pv 2) rfl)
 (pss_cons (ps_fld (pv 0) (pv 3) rfl)
 (pss_cons (ps_fld (pv 0) (pv 4) rfl)
 (pss_cons (ps_fld (pv 0) pe_dnewK rfl)
 (pss_one (ps_fld (pv 0) (pe_lst pa_nil) rfl))))))), ?_⟩
    refine ⟨_, rfl, _, rfl, c, A.c_Refining, dx, [], rfl, hc, T.cl_Refining, T.n_Refining_grammar, by show 0 < 1000; decide, ?_⟩
    have l1 := lp [] "grammar" (.ref g)
    refine ⟨_, rfl, _, rfl, c, A.c_Refining, dx, _, rfl, upd_same, T.cl_Refining, T.n_Refining_kind, by simp only [List.length_nil] at l1; omega, ?_⟩
    have l2 := lp (putF "grammar" (.ref g) []) "kind" (.str kind)
    refine ⟨_, rfl, _, rfl, c, A.c_Refining, dx, _, rfl, upd_same, T.cl_Refining, T.n_Refining_known, by simp only [List.length_nil] at l1; omega, ?_⟩
    have l3 := lp (putF "kind" (.str kind) (putF "grammar" (.ref g) [])) "known" (.ref kn)
    refine ⟨_, rfl, _, rfl, c, A.c_Refining, dx, _, rfl, upd_same, T.cl_Refining, T.n_Refining_old, by simp only [List.length_nil] at l1; omega, ?_⟩
    have l4 := lp (putF "known" (.ref kn) (putF "kind" (.str kind) (putF "grammar" (.ref g) []))) "old" (.ref ol)
    intro d hd
    have ncd : c ≠ d := fun z => by rw [← z, upd_same] at hd; cases hd
    refine ⟨_, rfl, c, A.c_Refining, dx, _, rfl, same_new hd _ _ upd_same, T.cl_Refining, T.n_Refining_base, by simp only [List.length_nil] at l1; omega, ?_⟩
    have l5 := lp (putF "old" (.ref ol) (putF "known" (.ref kn) (putF "kind" (.str kind) (putF "grammar" (.ref g) [])))) "base" (.ref d)
    refine ⟨Nat.zero_le _, fun f hf => ?_⟩
    have ncf : c ≠ f := fun z => by rw [← z, upd_same] at hf; cases hf
    have ndf : d ≠ f := fun z => by
      rw [← z, upd_ne ncd.symm, upd_same] at hf
      cases hf
    refine ⟨_, rfl, c, A.c_Refining, dx, _, rfl, same_new hf _ _ upd_same, T.cl_Refining, T.n_Refining_firsts, by simp only [List.length_nil] at l1; omega, ?_⟩
    have hd0 : H d = none := by simpa [upd_ne ncd.symm] using hd
    have hf0 : H f = none := by simpa [upd_ne ncf.symm, upd_ne ndf.symm] using hf
    refine q d f _ (fun b o h n => ?_) hd0 hf0 ndf upd_same ?_ ?_
    · have n1 : b ≠ d := ne_of_none h hd0
      have n2 : b ≠ f := ne_of_none h hf0
      simp only [upd_ne n, upd_ne n1, upd_ne n2]
      exact h
    · simp only [upd_ne ncd.symm, upd_ne ndf]
      exact upd_same
    · simp only [upd_ne ncf.symm]
      exact upd_same
end
end SG
namespace SG
open PySem PySem.Spec PyProof.Rows L2 LamX
section
variable {P : Program} {w : World} {K : PySem.W.Frag} {mg : Str → Option Value} {base : Heap} {A : Ad}
theorem tabs_but {T : List (Addr × Str)} {H H' : Hp} {ba fi : Addr} {x : HO} {y : List V} (t : Tabs T H) (hb : H ba = some (.dK [])) (hf : H fi = some (.lst y)) (k : ∀ b o, H b = some o → b ≠ ba → b ≠ fi → H' b = some o) : Tabs T H' := fun p hp => by
  obtain ⟨ps, h1, h2, h3⟩ := t p hp
  refine ⟨ps, k _ _ h1 (fun z => by rw [z, hb] at h1; cases h1) (fun z => by rw [z, hf] at h1; cases h1), h2, fun pos cv hc => ?_⟩
  obtain ⟨c, e1, e2⟩ := h3 pos cv hc
  refine ⟨c, e1, k _ _ e2 (fun z => ?_) fun z => ?_⟩
  · rw [z, hb] at e2
    have e2 := Option.some.inj e2
    unfold CodeO at e2
    cases e2
  · rw [z, hf] at e2
    have e2 := Option.some.inj e2
    unfold CodeO at e2
    cases e2
def sp_refined (T : List (Addr × Str)) (C : Addr) : Sp := fun vs H Q _ => ∃ (bag : Bool) (g kn ol : Addr) (names : List Str) (rs : List Rule) (wt : Str → Nat) (kvs : List (Key × V)) (old : KB), vs = [.ref g, .str (kd bag), .ref kn, .ref ol] ∧ Tabs T H ∧ GramAt C H g names rs ∧ KnAt H kn names wt ∧ GrW names rs wt ∧ H ol = some (.dK kvs) ∧ BaseAt H kvs old ∧ (∀ m ∈ old, m.2.length ≤ 12) ∧
  ∀ p H' kvs', ExtN H H' → Tabs T H' → FreeN H p → H' p = some (.dK kvs') → BaseAt H' kvs' (refineR bag rs wt old (ordW names wt)) → (∀ p ∈ kvs', ∀ a, p.2 = .ref a → FreeN H a) → Q (.ref p) H'
theorem ok_refined (T : Txt K mg A) (TB : TabB base mg A.k_lam A.p_lam) : FnOk P w K mg base CX0 9 A.a_refined A.d_refined ["grammar", "kind", "known", "old"] (sp_refined (tabT A) A.c_Grammar) := by
  have G_by_norms : FnOk P w K mg base CX0 4 A.a_by_norms A.d_by_norms ["grammar", "known"] (sp_by_norms (tabT A) A.c_Grammar) := ok_by_norms T TB
  have G_Refining___init__ : FnOk P w K mg base CX0 1 A.a_Refining___init__ A.d_Refining___init__ ["self", "grammar", "kind", "known", "old"] (sp_Rf_init A.c_Refining) := ok_Rf_init T
  have G_Refining_take : FnOk P w K mg base CX0 8 A.a_Refining_take A.d_Refining_take ["self", "name"] (sp_take A.c_Refining A.c_Grammar) := ok_take T
  refine T.F_refined.ok sc_refined (fun vs H Q E h => ?_) (fun cdv A0 outer s0 H vs Q E hr h => ?_)
  · obtain ⟨_, _, _, _, _, _, _, _, _, rfl, _⟩ := h
    rfl
  · obtain ⟨bag, g, kn, ol, names, rs, wt, kvs, old, rfl, hT, G, hK, gw, ho, hO, h12, q⟩ := h
    have gg := gw.gw
    refine ⟨_, (pss_cons (ps_set (i := 4) sc_refined.nd rfl (Or.inl rfl) (pe_make T.mk_Refining G_Refining___init__ (hr.mono (by decide)) (by rfl) T.g_Refining T.b_Refining___init__ .nil pass0 (pa_cons (pv 0) (pa_cons (pv 1) (pa_cons (pv 2) (pa_cons (pv 3) pa_nil))))))
 (pss_cons (ps_for PassesOwn.never rfl (pi_list (pe_call G_by_norms (hr.mono (by decide)) (by rfl) T.g_by_norms T.F_by_norms.kp T.b_by_norms .nil pass0 (pa_cons (pv 0) (pa_cons (pv 2) pa_nil)))) (pg_name (i := 5) sc_refined.nd rfl (Or.inl rfl))
 (pss_one (ps_expr (pe_meth (pv 4) T.cl_Refining T.m_Refining_take G_Refining_take (hr.mono (by decide)) T.b_Refining_take .nil pass0 (pa_cons (pv 5) pa_nil)))))
 (pss_one (ps_ret (pe_fld (pv 4) rfl))))), ?_⟩
    refine ⟨_, rfl, _, rfl, _, rfl, _, rfl, ?_⟩
    intro c dx hc0 hdx ndc
    have smc : Same H (upd (upd H dx (.own c)) c (.ins A.c_Refining dx [])) := (same_new hdx).trans (same_new (by rw [upd_ne ndc.symm]; exact hc0))
    refine ⟨c, dx, g, kn, ol, kd bag, rfl, upd_same, fun ba fi H1 kp hba hfi nbf h1 h2 h3 => ⟨rfl, ?_⟩⟩
    have sm1 : Same H H1 := fun b o h => kp b o (smc _ _ h) (ne_of_none h hc0)
    have hba0 : H ba = none := smc.free hba
    have hfi0 : H fi = none := smc.free hfi
    clear kp hba hfi
    refine ⟨_, rfl, _, rfl, g, kn, names, rs, wt, rfl, tabs_same hT sm1, G.same sm1, hK.same sm1, fun nl H2 eN T2 hnf hnl => ?_⟩
    have e02 : ExtN H H2 := (extN_same sm1).trans eN
    have hc2 := eN.ins h1
    have hb2 := eN.dk h2
    have hf2 := eN.lst h3
    have nlf : nl ≠ fi := fun z => by
      obtain ⟨ps, hh⟩ := hnf _ (z ▸ h3)
      cases hh
    have nlb : nl ≠ ba := ne_of hnl hb2 fun z => by cases z
    have rf0 : RfAt A.c_Refining A.c_Grammar H H2 c g kn ol ba fi bag names rs wt old [] [] := ⟨⟨dx, hc2⟩, ⟨e02, FreeN.of hba0, FreeN.of hfi0, G, hK, kvs, ho, hO⟩, ⟨[], hb2, .nil⟩, fun k hk => by
      rw [hb2] at hk
      cases hk
      exact fun p hp => (nomatch hp), hf2, gw, h12, fun m hm => (nomatch hm), fun x hx => (nomatch hx), Nat.zero_le _, Nat.zero_le _⟩
    have hol : (ordW names wt).length ≤ 1000 := by rw [(ordW_perm names wt).length_eq]; exact gw.le
    refine ⟨nl, rfl, ⟨_, SqL.of hnl⟩, for_list (K := K) (a := nl) (xs := (ordW names wt).map V.str) (fun i σ' H' => ∃ x5 : Option V, σ' = [some (.ref g), some (.str (kd bag)), some (.ref kn), some (.ref ol), some (.ref c), x5] ∧ (∀ b o, H2 b = some o → b ≠ ba → b ≠ fi → H' b = some o) ∧ RfAt A.c_Refining A.c_Grammar H H' c g kn ol ba fi bag names rs wt old (refineS bag rs wt old ((ordW names wt).take i)).1 (refineS bag rs wt old ((ordW names wt).take i)).2) ?_ ?_ ?_ ?_⟩
    · exact ⟨_, rfl, fun b o h _ _ => h, rf0⟩
    · rintro i σ' H' _ ⟨_, rfl, kp, _⟩
      exact SqL.of (kp _ _ hnl nlb nlf)
    · rintro i v σ' H3 hi ⟨x5, rfl, kp3, rf3⟩
      obtain ⟨n, hn, rfl⟩ := map_at hi
      have hno : n ∈ ordW names wt := List.mem_of_getElem? hn
      have hnn : n ∈ names := (ordW_perm names wt).mem_iff.mp hno
      have hil := (List.getElem?_eq_some_iff.mp hn).1
      have s := refineS_inv (bag := bag) (old := old) gg i
      have e : ordW names wt = (ordW names wt).take i ++ n :: (ordW names wt).drop (i + 1) := by
        obtain ⟨hl, hx⟩ := List.getElem?_eq_some_iff.mp hn
        conv => lhs; rw [← List.take_append_drop i (ordW names wt), List.drop_eq_getElem_cons hl, hx]
      have hnp : n ∉ (ordW names wt).take i := fun hy => (List.nodup_append.mp (e ▸ gg.nd)).2.2 n hy n List.mem_cons_self rfl
      obtain ⟨dx3, hc3⟩ := rf3.ins
      have hk1 : (refineS bag rs wt old ((ordW names wt).take i)).1.length ≤ i := by
        have := s.sub.length_le
        rw [List.length_map, List.length_take] at this
        omega
      have hk2 : (refineS bag rs wt old ((ordW names wt).take i)).2.length ≤ i := by
        rw [s.fst]
        refine Nat.le_trans (List.length_filter_le _ _) ?_
        rw [List.length_take]
        exact Nat.min_le_left _ _
      refine ⟨_, rfl, c, _, _, rfl, hc3, rgfs_no g (kd bag) kn ol ba fi (by decide +kernel) (by decide +kernel) (by decide +kernel) (by decide +kernel) (by decide +kernel) (by decide +kernel), _, rfl, H, c, g, kn, ol, ba, fi, bag, names, rs, wt, old, _, _, n, rfl, rf3, hnn, fun z => hnp (s.sub.subset z), by omega, by omega, fun m hm => ?_, fun H4 kp4 rf4 => ?_⟩
      · obtain ⟨g1, g2, g3, g4⟩ := cands_good gg e s hm
        refine ⟨fun x hx => (ordW_perm names wt).mem_iff.mp (g2 x hx).1, ?_⟩
        have := wsum_len (wt := wt) (xs := m) fun x hx => gg.pos (g2 x hx).1
        have := gw.w12 n hnn
        omega
      · refine ⟨_, rfl, fun b o h hb hf => kp4 _ _ (kp3 b o h hb hf) hb hf, ?_⟩
        rw [take_snoc hn]
        unfold refineS
        rw [foldl_snoc]
        exact rf4
    · rintro σ' H3 ⟨x5, rfl, kp3, rf3⟩
      rw [List.length_map, List.take_length] at rf3
      obtain ⟨dx3, hc3⟩ := rf3.ins
      obtain ⟨kvb, hb3, hB3⟩ := rf3.atBase
      refine ⟨_, rfl, c, A.c_Refining, dx3, _, _, rfl, hc3, T.cl_Refining, T.n_Refining_base, rgfs_base g (kd bag) kn ol ba fi, ?_⟩
      refine q ba H3 kvb (fun b o h hn => kp3 _ _ (e02 b o h hn) (ne_of_none h hba0) (ne_of_none h hfi0)) (tabs_but (x := .own c) T2 hb2 hf2 kp3) (FreeN.of hba0) hb3 hB3 fun p hp => (rf3.sep _ hb3 p hp).2
/-- the bases told, the last one at the end -/
def BasesAt (H : Hp) (l : Addr) (bag : Bool) (rs : List Rule) (wt : Str → Nat) (ord : List Str) (n : Nat) : Prop := ∃ ds : List Addr, H l = some (.lst (ds.map V.ref)) ∧ ds.length = n + 1 ∧ ∀ (i : Nat) (d : Addr), ds[i]? = some d → ∃ kvs, H d = some (.dK kvs) ∧ BaseAt H kvs (bs bag rs wt ord i)
def sp_bases_of (T : List (Addr × Str)) (C : Addr) : Sp := fun vs H Q _ => ∃ (bag : Bool) (g kn : Addr) (names : List Str) (rs : List Rule) (wt : Str → Nat), vs = [.ref g, .str (kd bag), .ref kn] ∧ Tabs T H ∧ GramAt C H g names rs ∧ KnAt H kn names wt ∧ GrW names rs wt ∧
  ∀ p H' n, ExtN H H' → Tabs T H' → FreeN H p → n < (ordW names wt).length → bs bag rs wt (ordW names wt) n = finB bag rs wt (ordW names wt) → BasesAt H' p bag rs wt (ordW names wt) n → Q (.ref p) H'
theorem BaseAt.mutL {H : Hp} {l : Addr} {xs : List V} {kvs : List (Key × V)} {kb : KB} (h : BaseAt H kvs kb) (hl : ∀ p ∈ kvs, ∀ a, p.2 = .ref a → a ≠ l) (o : HO) : BaseAt (upd H l o) kvs kb :=
  Paired.mapP (paired_memL h hl) fun p q ⟨⟨g1, a, g2, g3⟩, g4⟩ => ⟨g1, a, g2, by rw [upd_ne (g4 a g2)]; exact g3⟩
def BLoop (T : List (Addr × Str)) (H : Hp) (g kn l : Addr) (bag : Bool) (names : List Str) (rs : List Rule) (wt : Str → Nat) (m : Nat) (σ' : L2.St) (H' : Hp) : Prop :=
  ∃ (j : Nat) (t : Addr) (ds : List Addr) (dl : Addr) (kvt : List (Key × V)), σ' = [some (.ref g), some (.str (kd bag)), some (.ref kn), some (.ref l), some (.ref t)] ∧ m = (ordW names wt).length - j ∧ j < (ordW names wt).length ∧ ExtN H H' ∧ Tabs T H' ∧ H' l = some (.lst ((ds ++ [dl]).map V.ref)) ∧ ds.length = j ∧
      (∀ (i : Nat) (d : Addr), (ds ++ [dl])[i]? = some d → ∃ kvs, H' d = some (.dK kvs) ∧ BaseAt H' kvs (bs bag rs wt (ordW names wt) i) ∧ ∀ p ∈ kvs, ∀ a, p.2 = .ref a → a ≠ l) ∧
      H' t = some (.dK kvt) ∧ BaseAt H' kvt (bs bag rs wt (ordW names wt) (j + 1)) ∧ (∀ p ∈ kvt, ∀ a, p.2 = .ref a → a ≠ l) ∧ ∀ k, k < j → bs bag rs wt (ordW names wt) (k + 1) ≠ bs bag rs wt (ordW names wt) k
theorem ok_bases_of (T : Txt K mg A) (TB : TabB base mg A.k_lam A.p_lam) : FnOk P w K mg base CX0 10 A.a_bases_of A.d_bases_of ["grammar", "kind", "known"] (sp_bases_of (tabT A) A.c_Grammar) := by
  have G_base_of_norms : FnOk P w K mg base CX0 5 A.a_base_of_norms A.d_base_of_norms ["grammar", "known"] (sp_base_of_norms (tabT A) A.c_Grammar) := ok_base_of_norms T TB
  have G_refined : FnOk P w K mg base CX0 9 A.a_refined A.d_refined ["grammar", "kind", "known", "old"] (sp_refined (tabT A) A.c_Grammar) := ok_refined T TB
  refine T.F_bases_of.ok sc_bases_of (fun vs H Q E h => ?_) (fun cdv A0 outer s0 H vs Q E hr h => ?_)
  · obtain ⟨_, _, _, _, _, _, rfl, _⟩ := h
    rfl
  · obtain ⟨bag, g, kn, names, rs, wt, rfl, hT, G, hK, gw, q⟩ := h
    have gg := gw.gw
    have hu64 := hu64_of hr
    have hu65 := hu65_of hr
    have hol : (ordW names wt).length ≤ 1000 := by rw [(ordW_perm names wt).length_eq]; exact gw.le
    have hin : ∀ k, BInv bag (ordW names wt) wt (bs bag rs wt (ordW names wt) k) := bs_inv gg
    refine ⟨_, (pss_cons (ps_set (i := 3) sc_bases_of.nd rfl (Or.inl rfl) (pe_lst (pa_cons (pe_call G_base_of_norms (hr.mono (by decide)) (by rfl) T.g_base_of_norms T.F_base_of_norms.kp T.b_base_of_norms .nil pass0 (pa_cons (pv 0) (pa_cons (pv 2) pa_nil))) pa_nil)))
 (pss_cons (ps_set (i := 4) sc_bases_of.nd rfl (Or.inl rfl) (pe_call G_refined (hr.mono (by decide)) (by rfl) T.g_refined T.F_refined.kp T.b_refined .nil pass0 (pa_cons (pv 0) (pa_cons (pv 1) (pa_cons (pv 2) (pa_cons (pe_ix (r := rIxL K) ix_list (pv 3) pe_int (fun _ _ => rfl)) pa_nil))))))
 (pss_cons (ps_while PassesOwn.never (pt_cmpR (r := rNeB) (op_neB hu65) (pv 4) (pe_ix (r := rIxL K) ix_list (pv 3) (pe_un un_neg pe_int) (fun _ _ => rfl)) (nomark _)) (pss_cons (ps_expr (pe_bm PySem.F.plainAttrs_list PySem.F.slot_list_append PySem.F.type_list_append mt_append (pv 3) (pa_cons (pv 4) pa_nil)))
 (pss_one (ps_set (i := 4) sc_bases_of.nd rfl (Or.inl rfl) (pe_call G_refined (hr.mono (by decide)) (by rfl) T.g_refined T.F_refined.kp T.b_refined .nil pass0 (pa_cons (pv 0) (pa_cons (pv 1) (pa_cons (pv 2) (pa_cons (pv 4) pa_nil)))))))))
 (pss_one (ps_ret (pv 3)))))), ?_⟩
    refine ⟨_, rfl, _, rfl, g, kn, names, rs, wt, rfl, hT, G, hK, gw, fun d0 H1 kvs0 e1 T1 hf0 hd0 hB0 hF0 => ⟨sl2 (by show 1 ≤ 1000000; decide), fun l hl => ?_⟩⟩
    have sml := same_new hl (o := .lst [V.ref d0])
    have e2 := e1.same sml
    have T2 := tabs_same T1 sml
    have hl0 : FreeN H l := e1.fr hl
    have hlA : (upd H1 l (.lst [V.ref d0])) l = some (.lst [V.ref d0]) := upd_same
    have hd02 := sml _ _ hd0
    have hB02 := hB0.same sml
    have hm0 : ∀ p ∈ kvs0, ∀ a, p.2 = .ref a → a ≠ l := fun p hp a ha z => by
      obtain ⟨i, hi⟩ := List.mem_iff_getElem?.mp hp
      have hil : i < (baseN wt (ordW names wt)).length := by rw [← paired_len hB0]; exact (List.getElem?_eq_some_iff.mp hi).1
      obtain ⟨_, b, e, hb⟩ := paired_ix hB0 hi (List.getElem?_eq_getElem hil)
      rw [e] at ha
      rw [← V.ref.inj ha] at z
      rw [z, hl] at hb
      cases hb
    generalize upd H1 l (.lst [V.ref d0]) = H2 at e2 T2 hlA hd02 hB02 ⊢
    refine ⟨_, rfl, _, rfl, _, rfl, _, rfl, l, _, _, _, rfl, rfl, SqL.of hlA, atI_nat (j := 0) rfl, bag, g, kn, d0, names, rs, wt, kvs0, _, rfl, T2, G.ext e2, hK.ext e2, gw, hd02, hB02, (hin 0).len gw, fun t H3 kvs1 e3 T3 hft ht hBt hFt => ?_⟩
    refine ⟨fun m σ' H' => BLoop (tabT A) H g kn l bag names rs wt m σ' H', ⟨_, 0, t, [], d0, kvs1, rfl, rfl, List.length_pos_iff.mpr gg.ne, e2.trans e3, T3, e3.lst hlA, rfl, fun i d hd => ?_, ht, hBt, fun p hp a ha z => ?_, fun k hk => absurd hk (Nat.not_lt_zero _)⟩, ?_⟩
    · cases i with
      | zero =>
        rw [← Option.some.inj hd]
        exact ⟨kvs0, e3.dk hd02, hB02.ext e3, hm0⟩
      | succ i => cases hd
    · obtain ⟨ps, hh⟩ := hFt p hp a ha _ (z ▸ hlA)
      cases hh
    rintro m σ' H4 ⟨j, t, ds, dl, kvt, rfl, rfl, hj, e4, T4, hl4, hdl, hds, ht4, hBt4, hmt, hne⟩
    obtain ⟨kvl, hk1, hk2, hk3⟩ := hds j dl (by rw [← hdl]; simp)
    refine ⟨_, rfl, _, rfl, _, rfl, l, _, _, _, rfl, rfl, SqL.of hl4, by rw [List.map_append]; exact atI_last _ _, t, dl, kvt, kvl, _, _, rfl, rfl, ht4, hk1, hBt4, hk2, _, rfl, ?_⟩
    rw [eqKB_iff gg.nd (hin (j + 1)) (hin j)]
    by_cases c : bs bag rs wt (ordW names wt) (j + 1) = bs bag rs wt (ordW names wt) j
    · rw [decide_eq_true c]
      refine iteF ⟨_, rfl, ?_⟩
      exact q l H4 j e4 T4 hl0 hj (finB_at (by omega) c) ⟨ds ++ [dl], hl4, by rw [List.length_append, hdl]; rfl, fun i d hd => by
        obtain ⟨kvs, a, b, _⟩ := hds i d hd
        exact ⟨kvs, a, b⟩⟩
    · rw [decide_eq_false c]
      refine iteT ?_
      have hj1 : j + 1 < (ordW names wt).length := by
        rcases bs_keys (bag := bag) gg (j + 1) with ⟨k, hk, e⟩ | h
        · rcases Nat.lt_or_ge k j with h | h
          · exact absurd e (hne k h)
          · rw [show k = j by omega] at e
            exact absurd e c
        · omega
      have hdl2 : ((ds ++ [dl]).map V.ref).length < sizeLine := by
        rw [List.length_map, List.length_append, hdl]
        exact sl1 (by show j + 1 ≤ 1000000; omega)
      have ntl : t ≠ l := ne_of ht4 hl4 fun z => by cases z
      have up : ∀ {kvs : List (Key × V)} {kb : KB} {d : Addr}, H4 d = some (.dK kvs) → BaseAt H4 kvs kb → (∀ p ∈ kvs, ∀ a, p.2 = .ref a → a ≠ l) → (upd H4 l (.lst ((ds ++ [dl]).map V.ref ++ [V.ref t]))) d = some (.dK kvs) ∧ BaseAt (upd H4 l (.lst ((ds ++ [dl]).map V.ref ++ [V.ref t]))) kvs kb := fun {kvs kb d} h1 h2 h3 => ⟨by rw [upd_ne (ne_of h1 hl4 fun z => by cases z)]; exact h1, h2.mutL (xs := []) h3 _⟩
      obtain ⟨u1, u2⟩ := up ht4 hBt4 hmt
      have e5 : ExtN H (upd H4 l (.lst ((ds ++ [dl]).map V.ref ++ [V.ref t]))) := e4.mut hl0 _
      have T5 := tabs_lst T4 hl4 (.lst ((ds ++ [dl]).map V.ref ++ [V.ref t]))
      have hl5 : (upd H4 l (.lst ((ds ++ [dl]).map V.ref ++ [V.ref t]))) l = some (.lst ((ds ++ [dl] ++ [t]).map V.ref)) := by rw [upd_same, List.map_append (l₁ := ds ++ [dl])]; rfl
      have hds5 : ∀ (i : Nat) (d : Addr), (ds ++ [dl] ++ [t])[i]? = some d → ∃ kvs, (upd H4 l (.lst ((ds ++ [dl]).map V.ref ++ [V.ref t]))) d = some (.dK kvs) ∧ BaseAt (upd H4 l (.lst ((ds ++ [dl]).map V.ref ++ [V.ref t]))) kvs (bs bag rs wt (ordW names wt) i) ∧ ∀ p ∈ kvs, ∀ a, p.2 = .ref a → a ≠ l := fun i d hd => by
        rcases Nat.lt_or_ge i (ds ++ [dl]).length with h | h
        · rw [List.getElem?_append_left h] at hd
          obtain ⟨kvs, a, b, c⟩ := hds i d hd
          obtain ⟨a2, b2⟩ := up a b c
          exact ⟨kvs, a2, b2, c⟩
        · rw [List.getElem?_append_right h] at hd
          have e0 : i - (ds ++ [dl]).length = 0 := by
            have := (List.getElem?_eq_some_iff.mp hd).1
            simp at this
            simp
            omega
          rw [e0] at hd
          rw [← Option.some.inj hd]
          have : i = j + 1 := by
            rw [List.length_append, hdl] at e0 h
            simp at e0 h
            omega
          rw [this]
          exact ⟨kvt, u1, u2, hmt⟩
      refine ⟨fun σ' H' => ∃ m', m' < (ordW names wt).length - j ∧ BLoop (tabT A) H g kn l bag names rs wt m' σ' H', fun _ _ h => h, _, rfl, .inl ⟨rfl, _, SqL.of hl4⟩, _, rfl, l, _, _, rfl, rfl, hl4, hdl2, ?_⟩
      · generalize upd H4 l (.lst ((ds ++ [dl]).map V.ref ++ [V.ref t])) = H5 at u1 u2 e5 T5 hl5 hds5 ⊢
        refine ⟨_, rfl, _, rfl, _, rfl, _, rfl, bag, g, kn, t, names, rs, wt, kvt, _, rfl, T5, G.ext e5, hK.ext e5, gw, u1, u2, (hin (j + 1)).len gw, fun t2 H6 kv2 e6 T6 hft2 ht2 hBt2 hFt2 => ?_⟩
        have hmt2 : ∀ p ∈ kv2, ∀ a, p.2 = .ref a → a ≠ l := fun p hp a ha z => by
          obtain ⟨ps, hh⟩ := hFt2 p hp a ha _ (z ▸ hl5)
          cases hh
        exact ⟨(ordW names wt).length - (j + 1), by omega, j + 1, t2, ds ++ [dl], t, kv2, rfl, rfl, hj1, e5.trans e6, T6, e6.lst hl5, by rw [List.length_append, hdl]; rfl, fun i d hd => by
          obtain ⟨kvs, a, b, c⟩ := hds5 i d hd
          exact ⟨kvs, e6.dk a, b.ext e6, c⟩, ht2, hBt2, hmt2, fun k hk => by
          rcases Nat.lt_or_ge k j with h | h
          · exact hne k h
          · rw [show k = j by omega]
            exact c⟩
end
end SG
namespace SG
open PySem PySem.Spec PyProof.Rows L2 LamX
section
variable {P : Program} {w : World} {K : PySem.W.Frag} {mg : Str → Option Value} {base : Heap} {A : Ad}
def sp_made_of (T : List (Addr × Str)) (C : Addr) : Sp := fun vs H Q _ => ∃ (bag : Bool) (g a : Addr) (names : List Str) (rs : List Rule) (wt : Str → Nat) (one : List Str), vs = [.ref g, .str (kd bag), .ref a] ∧ Tabs T H ∧ GramAt C H g names rs ∧ GrW names rs wt ∧ H a = some (.lst (one.map V.str)) ∧ (∀ x ∈ one, x ∈ names) ∧ wsum wt one ≤ capK bag ∧
  ∀ p H', ExtN H H' → Tabs T H' → FreeN H p → H' p = some (.lst ((outK bag (finB bag rs wt (ordW names wt)) one).map V.str)) → Q (.ref p) H'
theorem GrW.len {names : List Str} {rs : List Rule} {wt : Str → Nat} (g : GrW names rs wt) {one : List Str} (h : ∀ x ∈ one, x ∈ names) : one.length ≤ wsum wt one := wsum_len fun x hx => g.gw.pos ((ordW_perm names wt).mem_iff.mpr (h x hx))
theorem capK_le (bag : Bool) : capK bag ≤ 24 := by cases bag <;> decide
theorem last_of {ds : List Addr} {n : Nat} (h : ds.length = n + 1) : ∃ as d, ds = as ++ [d] ∧ ds[n]? = some d := by
  have hne : ds ≠ [] := fun z => by rw [z] at h; cases h
  refine ⟨ds.dropLast, ds.getLast hne, (List.dropLast_concat_getLast hne).symm, ?_⟩
  rw [List.getElem?_eq_getElem (by omega), List.getLast_eq_getElem]
  simp [h]
theorem ok_made_of (T : Txt K mg A) (TB : TabB base mg A.k_lam A.p_lam) : FnOk P w K mg base CX0 11 A.a_made_of A.d_made_of ["grammar", "kind", "one"] (sp_made_of (tabT A) A.c_Grammar) := by
  have G_weighed : FnOk P w K mg base CX0 3 A.a_weighed A.d_weighed ["grammar", "kind", "rows"] (sp_weighed2 A.c_Grammar) := ok_weighed T
  have G_bases_of : FnOk P w K mg base CX0 10 A.a_bases_of A.d_bases_of ["grammar", "kind", "known"] (sp_bases_of (tabT A) A.c_Grammar) := ok_bases_of T TB
  have G_put_out : FnOk P w K mg base CX0 1 A.a_put_out A.d_put_out ["kind", "base", "one"] sp_put_out := ok_put_out T
  refine T.F_made_of.ok sc_made_of (fun vs H Q E h => ?_) (fun cdv A0 outer s0 H vs Q E hr h => ?_)
  · obtain ⟨_, _, _, _, _, _, _, rfl, _⟩ := h
    rfl
  · obtain ⟨bag, g, a, names, rs, wt, one, rfl, hT, G, gw, ha, ho, hcap, q⟩ := h
    have hol := gw.len ho
    have hc24 := capK_le bag
    refine ⟨_, (pss_cons (ps_set (i := 3) sc_made_of.nd rfl (Or.inl rfl) (pe_call G_weighed (hr.mono (by decide)) (by rfl) T.g_weighed T.F_weighed.kp T.b_weighed .nil pass0 (pa_cons (pv 0) (pa_cons (pv 1) (pa_cons (pe_lst (pa_cons (pv 2) pa_nil)) pa_nil)))))
 (pss_one (ps_ret (pe_call G_put_out (hr.mono (by decide)) (by rfl) T.g_put_out T.F_put_out.kp T.b_put_out .nil pass0 (pa_cons (pv 1) (pa_cons (pe_ix (r := rIxL K) ix_list (pe_call G_bases_of (hr.mono (by decide)) (by rfl) T.g_bases_of T.F_bases_of.kp T.b_bases_of .nil pass0 (pa_cons (pv 0) (pa_cons (pv 1) (pa_cons (pv 3) pa_nil)))) (pe_un un_neg pe_int) (fun _ _ => rfl)) (pa_cons (pv 2) pa_nil))))))), ?_⟩
    refine ⟨_, rfl, _, rfl, _, rfl, sl2 (by show 1 ≤ 1000000; decide), fun p hp => ?_⟩
    have sm1 := same_new hp (o := .lst [V.ref a])
    refine ⟨bag, g, p, names, rs, wt, [one], rfl, G.same sm1, gw, ⟨[a], upd_same, .cons (sm1 _ _ ha) .nil⟩, by show 1 ≤ 1000; decide, fun r hr => ?_, fun d H1 hd0 sm2 hd1 => ?_⟩
    · rw [List.mem_singleton.mp hr]
      exact ⟨ho, by omega, hcap⟩
    have sm12 := sm1.trans sm2
    refine ⟨_, rfl, _, rfl, _, rfl, _, rfl, bag, g, d, names, rs, wt, rfl, tabs_same hT sm12, G.same sm12, KnAt.of gw hd1, gw, fun l H2 n e2 T2 hl0 hn hfin hB => ?_⟩
    obtain ⟨ds, hds, hdl, hdk⟩ := hB
    obtain ⟨as, dl, e, hdn⟩ := last_of hdl
    obtain ⟨kvs, hk1, hk2⟩ := hdk n dl hdn
    rw [hfin] at hk2
    have e02 := (extN_same sm12).trans e2
    refine ⟨_, rfl, l, _, _, _, rfl, rfl, SqL.of hds, by rw [e, List.map_append]; exact atI_last _ _, _, rfl, bag, dl, a, kvs, _, one, rfl, hk1, hk2, (finB_inv gw.gw).len gw, e02.lst ha, by omega, fun p3 H3 sm3 hp3 h3 => ?_⟩
    exact q p3 H3 (e02.same sm3) (tabs_same T2 sm3) (e02.fr hp3) h3
def mdfs (kn : Addr) (ba : Addr) : List (Str × V) := (putF "base" (.ref ba) (putF "known" (.ref kn) []))
theorem mdfs_known (kn : Addr) (ba : Addr) : (mdfs kn ba).lookup ("known" : Str) = some (.ref kn) := by unfold mdfs; rw [lookup_putF, if_neg (show ¬ (("known" : Str) = "base") by decide +kernel)]; rw [lookup_putF, if_pos rfl]
theorem mdfs_base (kn : Addr) (ba : Addr) : (mdfs kn ba).lookup ("base" : Str) = some (.ref ba) := by unfold mdfs; rw [lookup_putF, if_pos rfl]
theorem mdfs_no (kn : Addr) (ba : Addr) {m : Str} (h0 : ¬ m = "known") (h1 : ¬ m = "base") : (mdfs kn ba).lookup m = none := by unfold mdfs; rw [lookup_putF, if_neg h1]; rw [lookup_putF, if_neg h0]; rfl
/-- a Made instance -/
structure MdAt (C : Addr) (H : Hp) (c kn ba : Addr) (names : List Str) (rs : List Rule) (wt : Str → Nat) : Prop where
  ins : ∃ dx, H c = some (.ins C dx (mdfs kn ba))
  known : KnAt H kn names wt
  atB : ∃ kvs, H ba = some (.dK kvs) ∧ BaseAt H kvs (finB false rs wt (ordW names wt))
theorem MdAt.ext {C : Addr} {H H' : Hp} {c kn ba : Addr} {names : List Str} {rs : List Rule} {wt : Str → Nat} (h : MdAt C H c kn ba names rs wt) (e : ExtN H H') : MdAt C H' c kn ba names rs wt := by
  obtain ⟨dx, h1⟩ := h.ins
  obtain ⟨kvs, h2, h3⟩ := h.atB
  exact ⟨⟨dx, e.ins h1⟩, h.known.ext e, ⟨kvs, e.dk h2, h3.ext e⟩⟩
theorem tabs_ins {T : List (Addr × Str)} {H : Hp} {p C dx : Addr} {fs : List (Str × V)} (t : Tabs T H) (h : H p = some (.ins C dx fs)) (u : HO) : Tabs T (upd H p u) := fun q hq => by
  obtain ⟨ps, h1, h2, h3⟩ := t q hq
  refine ⟨ps, by rw [upd_ne (fun z => by rw [z, h] at h1; cases h1)]; exact h1, h2, fun pos cv hc => ?_⟩
  obtain ⟨c, e1, e2⟩ := h3 pos cv hc
  refine ⟨c, e1, ?_⟩
  rw [upd_ne (fun z => by
    rw [z, h] at e2
    have e2 := Option.some.inj e2
    unfold CodeO at e2
    cases e2)]
  exact e2
def sp_Md_init (T : List (Addr × Str)) (C CG : Addr) : Sp := fun vs H Q _ => ∃ (c dx g ra : Addr) (names : List Str) (rs : List Rule) (wt : Str → Nat) (rows : List (List Str)), vs = [.ref c, .ref g, .ref ra] ∧ H c = some (.ins C dx []) ∧ Tabs T H ∧ GramAt CG H g names rs ∧ GrW names rs wt ∧ RowsAt H ra rows ∧ rows.length ≤ 1000 ∧ (∀ r ∈ rows, (∀ x ∈ r, x ∈ names) ∧ wsum wt r ≤ 24) ∧
  ∀ kn ba H', (∀ b o, H b = some o → (∀ ps, o ≠ .tbl ps) → b ≠ c → H' b = some o) → Tabs T H' → MdAt C H' c kn ba names rs wt → Q .non H'
theorem GramAt.butI {C : Addr} {H : Hp} {g c D dx : Addr} {names : List Str} {rs : List Rule} {fs : List (Str × V)} (h : GramAt C H g names rs) (hc : H c = some (.ins D dx fs)) (hD : g ≠ c) (u : HO) : GramAt C (upd H c u) g names rs := by
  obtain ⟨dx', kn, st, od, ls, h1, h2, h3, h4⟩ := h.ex
  have nl : ∀ {a : Addr} {l : List V}, H a = some (.lst l) → a ≠ c := fun e => ne_of e hc fun z => by cases z
  have nt : ∀ {a : Addr} {l : List V}, H a = some (.tup l) → a ≠ c := fun e => ne_of e hc fun z => by cases z
  have nd : ∀ {a : Addr} {l : List (Key × V)}, H a = some (.dK l) → a ≠ c := fun e => ne_of e hc fun z => by cases z
  exact ⟨dx', kn, st, od, ls, by rw [upd_ne hD]; exact h1, by rw [upd_ne (nl h2)]; exact h2, ⟨by rw [upd_ne (nd h3.1)]; exact h3.1, Paired.mapP h3.2.1 fun _ _ ⟨ts, h5, h6⟩ => ⟨ts, by rw [upd_ne (nl h5)]; exact h5, Paired.mapP h6 fun _ _ ⟨x, h7, h8⟩ => ⟨x, by rw [upd_ne (nt h7)]; exact h7, by rw [upd_ne (nl h8)]; exact h8⟩⟩, h3.2.2⟩, by rw [upd_ne (nl h4)]; exact h4⟩
theorem KnAt.butI {H : Hp} {d c D dx : Addr} {names : List Str} {wt : Str → Nat} {fs : List (Str × V)} (h : KnAt H d names wt) (hc : H c = some (.ins D dx fs)) (u : HO) : KnAt (upd H c u) d names wt := by
  obtain ⟨kvs, h1, h2⟩ := h
  exact ⟨kvs, by rw [upd_ne (ne_of h1 hc fun z => by cases z)]; exact h1, h2⟩
theorem ok_Md_init (T : Txt K mg A) (TB : TabB base mg A.k_lam A.p_lam) : FnOk P w K mg base CX0 11 A.a_Made___init__ A.d_Made___init__ ["self", "grammar", "rows"] (sp_Md_init (tabT A) A.c_Made A.c_Grammar) := by
  have G_weighed : FnOk P w K mg base CX0 3 A.a_weighed A.d_weighed ["grammar", "kind", "rows"] (sp_weighed2 A.c_Grammar) := ok_weighed T
  have G_bases_of : FnOk P w K mg base CX0 10 A.a_bases_of A.d_bases_of ["grammar", "kind", "known"] (sp_bases_of (tabT A) A.c_Grammar) := ok_bases_of T TB
  refine T.F_Made___init__.ok sc_Made___init__ (fun vs H Q E h => ?_) (fun cdv A0 outer s H vs Q E hr h => ?_)
  · obtain ⟨_, _, _, _, _, _, _, _, rfl, _⟩ := h
    rfl
  · obtain ⟨c, dx, g, ra, names, rs, wt, rows, rfl, hc, hT, G, gw, hR, hrl, hrows, q⟩ := h
    have ngc : g ≠ c := fun z => by
      obtain ⟨dx2, kn2, st2, od2, hi2⟩ := G.ins
      rw [z, hc] at hi2
      have := HO.ins.inj (Option.some.inj hi2)
      have h2 : ([] : List (Str × V)) = gfs kn2 st2 od2 := this.2.2
      have h3 := gfs_known kn2 st2 od2
      rw [← h2] at h3
      cases h3
    refine ⟨_, (pss_cons (ps_fld (pv 0) (pe_call G_weighed (hr.mono (by decide)) (by rfl) T.g_weighed T.F_weighed.kp T.b_weighed .nil pass0 (pa_cons (pv 1) (pa_cons pe_str (pa_cons (pv 2) pa_nil)))) rfl)
 (pss_one (ps_fld (pv 0) (pe_ix (r := rIxL K) ix_list (pe_call G_bases_of (hr.mono (by decide)) (by rfl) T.g_bases_of T.F_bases_of.kp T.b_bases_of .nil pass0 (pa_cons (pv 1) (pa_cons pe_str (pa_cons (pe_fld (pv 0) rfl) pa_nil)))) (pe_un un_neg pe_int) (fun _ _ => rfl)) rfl))), ?_⟩
    refine ⟨_, rfl, _, rfl, false, g, ra, names, rs, wt, rows, rfl, G, gw, hR, hrl, fun r hr => ⟨(hrows r hr).1, by have := gw.len (hrows r hr).1; have := (hrows r hr).2; omega, (hrows r hr).2⟩, fun d H1 hd0 sm1 hd1 => ?_⟩
    have hc1 := sm1 _ _ hc
    refine ⟨_, rfl, c, A.c_Made, dx, [], rfl, hc1, T.cl_Made, T.n_Made_known, by show 0 < 1000; decide, ?_⟩
    have hc2 : (upd H1 c (.ins A.c_Made dx (putF "known" (.ref d) []))) c = some (.ins A.c_Made dx (putF "known" (.ref d) [])) := upd_same
    have G2 := (G.same sm1).butI hc1 ngc (.ins A.c_Made dx (putF "known" (.ref d) []))
    have K2 := (KnAt.of gw hd1).butI hc1 (.ins A.c_Made dx (putF "known" (.ref d) []))
    have T2 := tabs_ins (tabs_same hT sm1) hc1 (.ins A.c_Made dx (putF "known" (.ref d) []))
    have k2 : ∀ b o, H b = some o → b ≠ c → (upd H1 c (.ins A.c_Made dx (putF "known" (.ref d) []))) b = some o := fun b o h n => by rw [upd_ne n]; exact sm1 _ _ h
    have l1 := length_putF "known" (V.ref d) ([] : List (Str × V))
    have lk : (putF "known" (V.ref d) ([] : List (Str × V))).lookup ("known" : Str) = some (.ref d) := by rw [lookup_putF, if_pos rfl]
    show _
    generalize hfs : putF "known" (V.ref d) ([] : List (Str × V)) = fs at hc2 G2 K2 T2 k2 l1 lk ⊢
    generalize upd H1 c (.ins A.c_Made dx fs) = H2 at hc2 G2 K2 T2 k2 ⊢
    refine ⟨_, rfl, _, rfl, c, A.c_Made, dx, _, _, rfl, hc2, T.cl_Made, T.n_Made_known, lk, false, g, d, names, rs, wt, rfl, T2, G2, K2, gw, fun l H3 n e3 T3 hl0 hn hfin hB => ?_⟩
    obtain ⟨ds, hds, hdl, hdk⟩ := hB
    obtain ⟨as, dl, e, hdn⟩ := last_of hdl
    obtain ⟨kvs, hk1, hk2⟩ := hdk n dl hdn
    rw [hfin] at hk2
    refine ⟨_, rfl, l, _, _, _, rfl, rfl, SqL.of hds, by rw [e, List.map_append]; exact atI_last _ _, ?_⟩
    have hc3 := e3.ins hc2
    refine ⟨_, rfl, c, A.c_Made, dx, _, rfl, hc3, T.cl_Made, T.n_Made_base, by simp only [List.length_nil] at l1; omega, ?_⟩
    refine q d dl _ (fun b o h hn hb => by rw [upd_ne hb]; exact e3 _ _ (k2 b o h hb) hn) (tabs_ins T3 hc3 _) ⟨⟨dx, by rw [upd_same, ← hfs]; rfl⟩, (K2.ext e3).butI hc3 _, kvs, by rw [upd_ne (ne_of hk1 hc3 fun z => by cases z)]; exact hk1, ?_⟩
    exact Paired.mapP hk2 fun p m ⟨g1, a, g2, g3⟩ => ⟨g1, a, g2, by rw [upd_ne (ne_of g3 hc3 fun z => by cases z)]; exact g3⟩
def sp_Md_out (C : Addr) : Sp := fun vs H Q _ => ∃ (c kn ba a : Addr) (names : List Str) (rs : List Rule) (wt : Str → Nat) (one : List Str), vs = [.ref c, .ref a] ∧ MdAt C H c kn ba names rs wt ∧ GrW names rs wt ∧ H a = some (.lst (one.map V.str)) ∧ one.length ≤ 50000 ∧ ∀ p H', Same H H' → H p = none → H' p = some (.lst ((outK false (finB false rs wt (ordW names wt)) one).map V.str)) → Q (.ref p) H'
theorem ok_Md_out (T : Txt K mg A) : FnOk P w K mg base CX0 2 A.a_Made_out A.d_Made_out ["self", "row"] (sp_Md_out A.c_Made) := by
  have G_put_out : FnOk P w K mg base CX0 1 A.a_put_out A.d_put_out ["kind", "base", "one"] sp_put_out := ok_put_out T
  refine T.F_Made_out.ok sc_Made_out (fun vs H Q E h => ?_) (fun cdv A0 outer s0 H vs Q E hr h => ?_)
  · obtain ⟨_, _, _, _, _, _, _, _, rfl, _⟩ := h
    rfl
  · obtain ⟨c, kn, ba, a, names, rs, wt, one, rfl, md, gw, ha, hl, q⟩ := h
    obtain ⟨dx, hc⟩ := md.ins
    obtain ⟨kvs, h1, h2⟩ := md.atB
    refine ⟨_, (pss_one (ps_ret (pe_call G_put_out (hr.mono (by decide)) (by rfl) T.g_put_out T.F_put_out.kp T.b_put_out .nil pass0 (pa_cons pe_str (pa_cons (pe_fld (pv 0) rfl) (pa_cons (pv 1) pa_nil)))))), ?_⟩
    exact ⟨_, rfl, c, A.c_Made, dx, _, _, rfl, hc, T.cl_Made, T.n_Made_base, mdfs_base kn ba, _, rfl, false, ba, a, kvs, _, one, rfl, h1, h2, (finB_inv gw.gw).len gw, ha, hl, q⟩
end
end SG
namespace SG
open PySem PySem.Spec PyProof.Rows L2 LamX
section
variable {P : Program} {w : World} {K : PySem.W.Frag} {mg : Str → Option Value} {base : Heap} {A : Ad}
theorem ok__law_draw (T : Txt K mg A) : FnOk P w K mg base CX0 1 A.a__law_draw A.d__law_draw ["_law_well_here", "_law_many"] sp_draw := by
  refine T.F__law_draw.ok sc__law_draw (fun vs H Q E h => ?_) (fun cdv A0 outer s0 H vs Q E hr h => ?_)
  · obtain ⟨_, _, _, rfl, _⟩ := h
    rfl
  · obtain ⟨s, k, n, rfl, ⟨a, b, c, hs, ha, hc, hcn⟩, hn, hk, hk2, q⟩ := h
    refine ⟨_, (pss_cons (ps_if (pt_cmpR op_gt (pe_ix (r := rIxL K) ix_list (pv 0) pe_int (fun _ _ => rfl)) pe_int (nomark _)) (pss_cons (ps_set (i := 2) sc__law_draw.nd rfl (Or.inl rfl) (pe_op op_mod (pe_ix (r := rIxL K) ix_list (pv 0) pe_int (fun _ _ => rfl)) (pv 1)))
 (pss_cons (ps_asg (pe_op op_fdivW (pe_ix (r := rIxL K) ix_list (pv 0) pe_int (fun _ _ => rfl)) (pv 1)) (pg_sub (pv 0) pe_int set_list))
 (pss_one (ps_ret (pv 2))))) pss_nil)
 (pss_cons (ps_asg (pe_op op_add (pe_ix (r := rIxL K) ix_list (pv 0) pe_int (fun _ _ => rfl)) pe_int) (pg_sub (pv 0) pe_int set_list))
 (pss_cons (ps_set (i := 3) sc__law_draw.nd rfl (Or.inl rfl) (pe_op op_add (pe_op op_mod (pe_ix (r := rIxL K) ix_list (pv 0) pe_int (fun _ _ => rfl)) pe_int) (pe_op op_mod (pe_op op_fdivW (pe_ix (r := rIxL K) ix_list (pv 0) pe_int (fun _ _ => rfl)) pe_int) pe_int)))
 (pss_cons (ps_set (i := 4) sc__law_draw.nd rfl (Or.inl rfl) (pe_op op_mod (pe_op op_pow (pe_op op_add (pe_op op_add (pv 3) (pe_op op_mul pe_int (pe_ix (r := rIxL K) ix_list (pv 0) pe_int (fun _ _ => rfl)))) pe_int) pe_int) pe_int))
 (pss_cons (ps_set (i := 4) sc__law_draw.nd rfl (Or.inl rfl) (pe_op op_mod (pe_op op_mul (pv 4) (pe_op op_add (pe_op op_add (pe_op op_fdiv (pv 4) pe_int) pe_int) (pe_ix (r := rIxL K) ix_list (pv 0) pe_int (fun _ _ => rfl)))) pe_int))
 (pss_one (ps_ret (pe_op op_mod (pe_op op_mod (pe_op op_mul (pv 4) (pe_op op_add (pe_op op_fdiv (pv 4) pe_int) pe_int)) pe_int) (pv 1))))))))), ?_⟩
    refine ⟨_, rfl, _, _, _, _, rfl, rfl, SqL.of hs, atI_nat (j := 0) rfl, _, _, rfl, rfl, _, rfl, ite2 (fun h1 => ?_) (fun h1 => ?_)⟩
    · refine ⟨_, rfl, _, _, _, _, rfl, rfl, SqL.of hs, atI_nat (j := 0) rfl, _, rfl, _, _, rfl, rfl, hk, ?_⟩
      refine ⟨_, rfl, _, _, _, _, rfl, rfl, SqL.of hs, atI_nat (j := 0) rfl, _, rfl, _, _, rfl, rfl, ⟨hk, Nat.lt_of_lt_of_le (PySem.Flt.log2_lt_of (by decide) (show k.natAbs < 2 ^ 30 by omega)) (by decide)⟩, ?_⟩
      refine ⟨_, rfl, s, _, _, 0, rfl, rfl, hs, rfl, ?_⟩
      refine ⟨_, rfl, q _ _ (Int.emod_nonneg _ (by omega)) (Int.emod_lt_of_pos _ hk) ((But.refl s H).own _) ⟨a / k, b, c, upd_same, ?_, hc, by omega⟩⟩
      exact Int.ediv_nonneg ha (by omega)
    · refine ⟨_, rfl, _, _, _, _, rfl, rfl, SqL.of hs, atI_nat (j := 2) rfl, _, _, rfl, rfl, ?_⟩
      refine ⟨_, rfl, s, _, _, 2, rfl, rfl, hs, rfl, ?_⟩
      have hs1 : (upd H s (.lst ([V.int a, V.int b, V.int c].set 2 (V.int (c + 1))))) s = some (.lst [.int a, .int b, .int (c + 1)]) := upd_same
      have hw1 : WellAt (upd H s (.lst ([V.int a, V.int b, V.int c].set 2 (V.int (c + 1))))) s (n + 1) := ⟨a, b, c + 1, hs1, ha, by omega, by omega⟩
      have hb1 : But s H (upd H s (.lst ([V.int a, V.int b, V.int c].set 2 (V.int (c + 1))))) := (But.refl s H).own _
      have q1 := fun j h0 h1 => q j _ h0 h1 hb1 hw1
      show _
      generalize (upd H s (.lst ([V.int a, V.int b, V.int c].set 2 (V.int (c + 1))))) = H1 at hs1 q1 ⊢
      have ix1 : atI [V.int a, V.int b, V.int (c + 1)] 1 = some (.int b) := atI_nat (j := 1) rfl
      have ix2 : atI [V.int a, V.int b, V.int (c + 1)] 2 = some (.int (c + 1)) := atI_nat (j := 2) rfl
      refine ⟨_, rfl, _, _, _, _, rfl, rfl, SqL.of hs1, ix1, _, _, rfl, rfl, lt0, _, rfl, _, _, _, _, rfl, rfl, SqL.of hs1, ix1, _, _, rfl, rfl, ⟨by decide, Nat.lt_of_lt_of_le (PySem.Flt.log2_lt_of (by decide) (show (2147483629 : Int).natAbs < 2 ^ 31 by decide)) (by decide)⟩, _, _, rfl, rfl, lt0, _, _, rfl, rfl, ?_⟩
      refine ⟨_, rfl, _, rfl, _, _, _, _, rfl, rfl, SqL.of hs1, ix2, _, _, rfl, rfl, .inl ⟨by decide, by decide⟩, _, _, rfl, rfl, _, _, rfl, rfl, _, _, rfl, rfl, ⟨by decide, by decide, by omega⟩, _, _, rfl, rfl, lt0, ?_⟩
      dsimp only
      have z0 := Int.emod_nonneg ((b % 2147483629 + b / 2147483629 % 65521 + 7919 * (c + 1) + 1) ^ (5 : Int).toNat) (show (2147483647 : Int) ≠ 0 by decide)
      have z1 := Int.emod_lt_of_pos ((b % 2147483629 + b / 2147483629 % 65521 + 7919 * (c + 1) + 1) ^ (5 : Int).toNat) (show (0 : Int) < 2147483647 by decide)
      generalize (b % 2147483629 + b / 2147483629 % 65521 + 7919 * (c + 1) + 1) ^ (5 : Int).toNat % 2147483647 = z at z0 z1 ⊢
      refine ⟨_, rfl, _, rfl, _, _, rfl, rfl, ⟨by decide, by decide⟩, _, _, rfl, rfl, _, rfl, _, _, _, _, rfl, rfl, SqL.of hs1, ix2, _, _, rfl, rfl, _, _, rfl, rfl, .inl ⟨by omega, by omega⟩, _, _, rfl, rfl, lt0, ?_⟩
      dsimp only
      have y0 := Int.emod_nonneg (z * (z / 1009 + 69621 + (c + 1))) (show (2147483629 : Int) ≠ 0 by decide)
      have y1 := Int.emod_lt_of_pos (z * (z / 1009 + 69621 + (c + 1))) (show (0 : Int) < 2147483629 by decide)
      generalize z * (z / 1009 + 69621 + (c + 1)) % 2147483629 = y at y0 y1 ⊢
      refine ⟨_, rfl, _, rfl, _, _, rfl, rfl, ⟨by decide, by decide⟩, _, _, rfl, rfl, _, _, rfl, rfl, .inl ⟨by omega, by omega⟩, _, _, rfl, rfl, lt0, _, rfl, _, _, rfl, rfl, hk, ?_⟩
      exact q1 _ (Int.emod_nonneg _ (by omega)) (Int.emod_lt_of_pos _ hk)
end
section
variable {P : Program} {w : World} {K : PySem.W.Frag} {mg : Str → Option Value} {base : Heap} {A : Ad}
theorem ok__law_cell_at (T : Txt K mg A) : FnOk P w K mg base CX0 1 A.a__law_cell_at A.d__law_cell_at ["_law_script", "_law_k"] (sp_cell_at K) := by
  refine T.F__law_cell_at.ok sc__law_cell_at (fun vs H Q E h => ?_) (fun cdv A0 outer s0 H vs Q E hr h => ?_)
  · obtain ⟨_, _, _, rfl, _⟩ := h
    rfl
  · obtain ⟨a, ns, k, rfl, ha, q⟩ := h
    refine ⟨_, (pss_cons (ps_if (pt_cmpR op_lt (pv 1) (pe_callB (id := "len") (r := Evl.rLenS K) call_len_seq (by rfl) T.len (by decide +kernel) (pa_cons (pv 0) pa_nil)) (nomark _)) (pss_one (ps_ret (pe_ix (r := rIxL K) ix_list (pv 0) (pv 1) (fun _ _ => rfl)))) pss_nil)
 (pss_one (ps_ret pe_int))), ?_⟩
    refine ⟨_, rfl, _, rfl, _, _, rfl, .inl ha, _, _, rfl, rfl, _, rfl, iteB (fun h1 => ?_) (fun h1 => ?_)⟩
    · have hk : (k : Int) < ((ns.map V.int).length : Int) := of_decide_eq_true h1
      obtain ⟨v, hv, hm⟩ := atI_some (xs := ns.map V.int) (i := (k : Int)) (by omega) hk
      obtain ⟨z, _, rfl⟩ := List.mem_map.mp hm
      exact ⟨_, rfl, _, rfl, _, _, _, _, rfl, rfl, ha, hv, q z⟩
    · exact q 0
theorem ok__law_well (T : Txt K mg A) : FnOk P w K mg base CX0 1 A.a__law_well A.d__law_well ["_law_cell"] sp_well := by
  refine T.F__law_well.ok sc__law_well (fun vs H Q E h => ?_) (fun cdv A0 outer s0 H vs Q E hr h => ?_)
  · obtain ⟨_, rfl, _⟩ := h
    rfl
  · obtain ⟨c, rfl, q⟩ := h
    refine ⟨_, (pss_one (ps_ret (pe_lst (pa_cons (pe_op op_mul (pv 0) (pe_callTy (T := "int") call_int1 (by rfl) T.int_ (by decide +kernel) (pa_cons (pe_cmpR op_ge (pv 0) (pe_op op_pow pe_int pe_int) (nomark _)) pa_nil))) (pa_cons (pv 0) (pa_cons pe_int pa_nil)))))), ?_⟩
    refine ⟨_, rfl, _, rfl, _, _, rfl, rfl, ⟨by decide, by decide, by decide⟩, _, _, rfl, rfl, .inr ⟨_, rfl, _, _, rfl, rfl, ?_⟩⟩
    have e9 : ((10 : Int) ^ (18 : Int).toNat) = 1000000000000000000 := by decide
    refine ⟨.inr ⟨by split <;> decide, by split <;> decide⟩, _, rfl, sl2 (by show 3 ≤ 1000000; decide), fun p hp => q p _ hp (same_new hp) ⟨_, c, 0, upd_same, ?_, by decide, by decide⟩⟩
    rw [e9]
    split
    · rename_i h
      have := of_decide_eq_true h
      omega
    · omega
theorem ok__law_one (T : Txt K mg A) : FnOk P w K mg base CX0 2 A.a__law_one A.d__law_one ["_law_well_here", "_law_some"] sp_one := by
  have G__law_draw : FnOk P w K mg base CX0 1 A.a__law_draw A.d__law_draw ["_law_well_here", "_law_many"] sp_draw := ok__law_draw T
  refine T.F__law_one.ok sc__law_one (fun vs H Q E h => ?_) (fun cdv A0 outer s0 H vs Q E hr h => ?_)
  · obtain ⟨_, _, _, _, rfl, _⟩ := h
    rfl
  · obtain ⟨s, a, xs, n, rfl, hw, hn, ha, nas, h0, hl, q⟩ := h
    refine ⟨_, (pss_one (ps_ret (pe_ix (r := rIxL K) ix_list (pv 1) (pe_call G__law_draw (hr.mono (by decide)) (by rfl) T.g__law_draw T.F__law_draw.kp T.b__law_draw .nil pass0 (pa_cons (pv 0) (pa_cons (pe_callB (id := "len") (r := Evl.rLenS K) call_len_seq (by rfl) T.len (by decide +kernel) (pa_cons (pv 1) pa_nil)) pa_nil))) (fun _ _ => rfl)))), ?_⟩
    refine ⟨_, rfl, _, rfl, _, rfl, _, _, rfl, .inl (SqL.of ha), s, _, n, rfl, hw, hn, by omega, by omega, fun j H1 j0 j1 bt hw1 => ?_⟩
    obtain ⟨v, hv, hm⟩ := atI_some j0 j1
    exact ⟨_, _, _, _, rfl, rfl, SqL.of (bt _ _ nas ha), hv, q v H1 hm bt hw1⟩
theorem ok__law_names (T : Txt K mg A) : FnOk P w K mg base CX0 2 A.a__law_names A.d__law_names ["_law_well_here", "_law_many"] sp_namesB := by
  have G__law_draw : FnOk P w K mg base CX0 1 A.a__law_draw A.d__law_draw ["_law_well_here", "_law_many"] sp_draw := ok__law_draw T
  refine T.F__law_names.ok sc__law_names (fun vs H Q E h => ?_) (fun cdv A0 outer s0 H vs Q E hr h => ?_)
  · obtain ⟨_, _, _, rfl, _⟩ := h
    rfl
  · obtain ⟨s, m, n, rfl, hm, hw, hn, q⟩ := h
    refine ⟨_, (pss_cons (ps_set (i := 2) sc__law_names.nd rfl (Or.inr rfl) (pe_join pe_str (pe_lc (own := [("_law_k", 4)]) (g := gName 4) (by rfl) sc__law_names.nd (pi_range1 (by rfl) T.range (pa_cons (pe_call G__law_draw (hr.mono (by decide)) (by rfl) T.g__law_draw T.F__law_draw.kp T.b__law_draw .nil pass0 (pa_cons (pv 0) (pa_cons pe_int pa_nil))) pa_nil)) (blkOk_by (own := [("_law_k", 4)]) (N := ["_law_well_here", "_law_many", "_law_stem", "_law_first", "_law_k"]) (sc := defScope s__law_names) (by decide +kernel)) (fun _ _ _ _ _ => (pg_name (i := 4) sc__law_names.nd rfl (Or.inl rfl))) (fun _ _ _ _ _ => pts_nil) (fun _ _ _ _ _ => (pe_ix (r := rIxS) ix_str pe_str (pe_call G__law_draw (hr.mono (by decide)) (by rfl) T.g__law_draw T.F__law_draw.kp T.b__law_draw .nil pass0 (pa_cons (pv 0) (pa_cons pe_int pa_nil))) (fun _ _ => rfl))))))
 (pss_cons (ps_set (i := 3) sc__law_names.nd rfl (Or.inr rfl) (pe_call G__law_draw (hr.mono (by decide)) (by rfl) T.g__law_draw T.F__law_draw.kp T.b__law_draw .nil pass0 (pa_cons (pv 0) (pa_cons pe_int pa_nil))))
 (pss_one (ps_ret (pe_lc (own := [("_law_k", 4)]) (g := gName 4) (by rfl) sc__law_names.nd (pi_range1 (by rfl) T.range (pa_cons (pv 1) pa_nil)) (blkOk_by (own := [("_law_k", 4)]) (N := ["_law_well_here", "_law_many", "_law_stem", "_law_first", "_law_k"]) (sc := defScope s__law_names) (by decide +kernel)) (fun _ _ _ _ _ => (pg_name (i := 4) sc__law_names.nd rfl (Or.inl rfl))) (fun _ _ _ _ _ => pts_nil) (fun _ _ _ _ _ => (pe_op op_add_str (pv 2) (pe_ix (r := rIxS) ix_str pe_str (pe_op op_mod (pe_op op_add (pv 3) (pe_op op_mul pe_int (pv 4))) pe_int) (fun _ _ => rfl))))))))), ?_⟩
    refine ⟨⟨_, rfl⟩, _, rfl, s, _, n, rfl, hw, by omega, by decide, by decide, fun j H1 j0 j1 bt1 hw1 => ?_⟩
    refine ⟨_, rfl, by omega, by omega, fun D hD => lc_range (fun i H' => ∃ ls : List Nat, But s H H' ∧ WellAt H' s (n + 1 + i) ∧ H' D = some (.lst ((ls.map fun c => (⟨#[c]⟩ : Str)).map V.str)) ∧ ls.length = i ∧ Smalls ls) ?_ ?_ ?_⟩
    · exact ⟨[], bt1.cell (bt1.freeW hw1 hD) _, hw1.cell hw1 hD, upd_same, rfl, fun c h => by simp at h⟩
    · rintro i H2 hi ⟨ls, bt2, hw2, h2, hl, hs⟩
      refine ⟨rfl, tyes (iteT ?_)⟩
      refine ⟨_, rfl, s, _, n + 1 + i, rfl, hw2, by omega, by decide, by decide, fun k H3 k0 k1 bt3 hw3 => ?_⟩
      have h3 := bt3 _ _ (hw2.ne_strs h2) h2
      refine ⟨_, _, _, rfl, rfl, by decide +kernel, letter_at k0 k1, _, h3, by rw [List.length_map, List.length_map]; exact sl1 (by omega), ls ++ [97 + k.toNat], (bt2.trans bt3).cell (bt1.freeW hw1 hD) _, hw3.cell hw1 hD, by rw [upd_same, List.map_append, List.map_append]; rfl, by simp [hl], fun c hc => ?_⟩
      rcases List.mem_append.mp hc with hc | hc
      · exact hs c hc
      · rw [List.mem_singleton.mp hc]; omega
    rintro H2 ⟨ls, bt2, hw2, h2, hl, hs⟩
    have hl5 : ls.length ≤ 5 := by omega
    refine ⟨"", D, _, rfl, rfl, .inl (SqL.of h2), ?_, ?_⟩
    · rw [List.length_map, show ("" : Str).length = 0 from rfl, Nat.mul_zero, Nat.add_zero, List.map_map]
      have e : (ls.map ((fun x : Str => x.length) ∘ fun c => (⟨#[c]⟩ : Str))) = ls.map fun _ => 1 := List.map_congr_left fun _ _ => rfl
      rw [e]
      have e2 : (ls.map fun _ => 1).sum = ls.length := by
        clear e hl hs hw2 h2 hl5
        induction ls with
        | nil => rfl
        | cons x t ih => rw [List.map_cons, List.sum_cons, ih, List.length_cons]; omega
      rw [e2]
      omega
    rw [show Txt.join "" (ls.map fun c => (⟨#[c]⟩ : Str)) = ⟨ls.toArray⟩ from (TL.join_eq _ _).trans (join_one_signs ls)]
    refine ⟨_, rfl, s, _, _, rfl, hw2, by omega, by decide, by decide, fun f H3 f0 f1 bt3 hw3 => ?_⟩
    have bt13 := bt2.trans bt3
    refine ⟨_, rfl, (m : Int), rfl, by omega, by omega, fun D2 hD2 => lc_range (fun i H' => ∃ xs : List Str, Same H3 H' ∧ H' D2 = some (.lst (xs.map V.str)) ∧ xs.length = i ∧ ∀ (j : Nat) x, xs[j]? = some x → CalledB ls f j x) ?_ ?_ ?_⟩
    · exact ⟨[], same_new hD2, upd_same, rfl, fun j x h => by simp at h⟩
    · rintro i H4 hi ⟨xs, sm, h4, hlx, hx⟩
      refine ⟨rfl, tyes (iteT ?_)⟩
      refine ⟨_, rfl, _, rfl, _, rfl, _, _, rfl, rfl, .inl ⟨by omega, by omega⟩, _, _, rfl, rfl, _, _, rfl, rfl, lt0, _, _, _, rfl, rfl, by decide +kernel, letter12_at (by omega) (by omega), _, _, rfl, rfl, ?_, _, h4, by rw [List.length_map]; exact sl1 (by omega), xs ++ [_], same_mut sm hD2, by rw [upd_same, List.map_append]; rfl, by simp [hlx], fun j x hj => ?_⟩
      · show ls.toArray.size + 1 ≤ sizeLine
        rw [List.size_toArray, sizeLine_eq]; omega
      rw [List.getElem?_append] at hj
      by_cases c : j < xs.length
      · rw [if_pos c] at hj
        exact hx j x hj
      · rw [if_neg c] at hj
        have hj0 : j - xs.length = 0 := by
          have := (List.getElem?_eq_some_iff.mp hj).1
          simp at this
          omega
        rw [hj0] at hj
        have e : _ = x := Option.some.inj hj
        have ej : j = i := by omega
        subst ej
        unfold CalledB
        rw [← e, ← app_sign, Int.zero_add]
    · rintro H4 ⟨xs, sm, h4, hlx, hx⟩
      exact q D2 H4 xs (bt13.freeW hw3 hD2) (bt13.same sm) ((hw3.same sm).mono (by omega)) h4 ⟨by simpa using hlx, ls, f, hl5, hs, hx⟩
theorem ok__law_signs (T : Txt K mg A) : FnOk P w K mg base CX0 2 A.a__law_signs A.d__law_signs ["_law_well_here", "_law_many"] sp_signsB := by
  have G__law_draw : FnOk P w K mg base CX0 1 A.a__law_draw A.d__law_draw ["_law_well_here", "_law_many"] sp_draw := ok__law_draw T
  refine T.F__law_signs.ok sc__law_signs (fun vs H Q E h => ?_) (fun cdv A0 outer s0 H vs Q E hr h => ?_)
  · obtain ⟨_, _, _, rfl, _⟩ := h
    rfl
  · obtain ⟨s, m, n, rfl, hm, hw, hn, q⟩ := h
    refine ⟨_, (pss_cons (ps_set (i := 2) sc__law_signs.nd rfl (Or.inr rfl) (pe_call G__law_draw (hr.mono (by decide)) (by rfl) T.g__law_draw T.F__law_draw.kp T.b__law_draw .nil pass0 (pa_cons (pv 0) (pa_cons pe_int pa_nil))))
 (pss_one (ps_ret (pe_lc (own := [("_law_k", 3)]) (g := gName 3) (by rfl) sc__law_signs.nd (pi_range1 (by rfl) T.range (pa_cons (pv 1) pa_nil)) (blkOk_by (own := [("_law_k", 3)]) (N := ["_law_well_here", "_law_many", "_law_first", "_law_k"]) (sc := defScope s__law_signs) (by decide +kernel)) (fun _ _ _ _ _ => (pg_name (i := 3) sc__law_signs.nd rfl (Or.inl rfl))) (fun _ _ _ _ _ => pts_nil) (fun _ _ _ _ _ => (pe_ix (r := rIxS) ix_str pe_str (pe_op op_mod (pe_op op_add (pv 2) (pe_op op_mul pe_int (pv 3))) pe_int) (fun _ _ => rfl))))))), ?_⟩
    refine ⟨_, rfl, s, _, n, rfl, hw, by omega, by decide, by decide, fun f H1 f0 f1 bt1 hw1 => ?_⟩
    refine ⟨_, rfl, (m : Int), rfl, by omega, by omega, fun D hD => lc_range (fun i H' => ∃ xs : List Str, Same H1 H' ∧ H' D = some (.lst (xs.map V.str)) ∧ xs.length = i ∧ ∀ (j : Nat) x, xs[j]? = some x → SignB f j x) ?_ ?_ ?_⟩
    · exact ⟨[], same_new hD, upd_same, rfl, fun j x h => by simp at h⟩
    · rintro i H2 hi ⟨xs, sm, h2, hl, hx⟩
      refine ⟨rfl, tyes (iteT ?_)⟩
      refine ⟨_, rfl, _, rfl, _, _, rfl, rfl, .inl ⟨by omega, by omega⟩, _, _, rfl, rfl, _, _, rfl, rfl, lt0, _, _, _, rfl, rfl, by decide +kernel, letter_at (by omega) (by omega), _, h2, by rw [List.length_map]; exact sl1 (by omega), xs ++ [_], same_mut sm hD, by rw [upd_same, List.map_append]; rfl, by simp [hl], fun j x hj => ?_⟩
      rw [List.getElem?_append] at hj
      by_cases c : j < xs.length
      · rw [if_pos c] at hj
        exact hx j x hj
      · rw [if_neg c] at hj
        have hj0 : j - xs.length = 0 := by
          have := (List.getElem?_eq_some_iff.mp hj).1
          simp at this
          omega
        rw [hj0] at hj
        have e : _ = x := Option.some.inj hj
        have ej : j = i := by omega
        subst ej
        unfold SignB
        rw [← e, Int.zero_add]
    · rintro H2 ⟨xs, sm, h2, hl, hx⟩
      exact q D H2 xs (bt1.freeW hw1 hD) (bt1.same sm) (hw1.same sm) h2 ⟨by simpa using hl, f, hx⟩
theorem ok__law_mixed (T : Txt K mg A) : FnOk P w K mg base CX0 2 A.a__law_mixed A.d__law_mixed ["_law_well_here", "_law_some"] sp_mixed := by
  have G__law_draw : FnOk P w K mg base CX0 1 A.a__law_draw A.d__law_draw ["_law_well_here", "_law_many"] sp_draw := ok__law_draw T
  refine T.F__law_mixed.ok sc__law_mixed (fun vs H Q E h => ?_) (fun cdv A0 outer s0 H vs Q E hr h => ?_)
  · obtain ⟨_, _, _, _, rfl, _⟩ := h
    rfl
  · obtain ⟨s, a, xs, n, rfl, hw, hn, ha, nas, hl, q⟩ := h
    refine ⟨_, (pss_cons (ps_set (i := 2) sc__law_mixed.nd rfl (Or.inr rfl) (pe_callTy (T := "list") (r := Evl.rListS K) call_list_of (by rfl) T.list_ (by decide +kernel) (pa_cons (pv 1) pa_nil)))
 (pss_one (ps_ret (pe_lc (own := [("_law_k", 3)]) (g := gName 3) (by rfl) sc__law_mixed.nd (pi_range1 (by rfl) T.range (pa_cons (pe_callB (id := "len") (r := Evl.rLenS K) call_len_seq (by rfl) T.len (by decide +kernel) (pa_cons (pv 1) pa_nil)) pa_nil)) (blkOk_by (own := [("_law_k", 3)]) (N := ["_law_well_here", "_law_some", "_law_left", "_law_k"]) (sc := defScope s__law_mixed) (by decide +kernel)) (fun _ _ _ _ _ => (pg_name (i := 3) sc__law_mixed.nd rfl (Or.inl rfl))) (fun _ _ _ _ _ => pts_nil) (fun _ _ _ _ _ => (show PE _ _ (tBM K _ _ _ _) from (pe_bm PySem.F.plainAttrs_list PySem.F.slot_list_pop PySem.F.type_list_pop mt_popAt (pv 2) (pa_cons (pe_call G__law_draw (hr.mono (by decide)) (by rfl) T.g__law_draw T.F__law_draw.kp T.b__law_draw .nil pass0 (pa_cons (pv 0) (pa_cons (pe_callB (id := "len") (r := Evl.rLenS K) call_len_seq (by rfl) T.len (by decide +kernel) (pa_cons (pv 2) pa_nil)) pa_nil))) pa_nil)))))))), ?_⟩
    refine ⟨_, rfl, a, _, rfl, .inl (SqL.of ha), fun l hl0 => ?_⟩
    have sml := same_new hl0 (o := .lst xs)
    have hll : (upd H l (.lst xs)) l = some (.lst xs) := upd_same
    have hwl := hw.same sml
    have nls : l ≠ s := by
      obtain ⟨o, ho⟩ := hw.some
      exact (ne_of_none ho hl0).symm
    generalize (upd H l (.lst xs)) = H1 at sml hll hwl ⊢
    refine ⟨_, rfl, _, _, rfl, .inl (SqL.of (sml _ _ ha)), (xs.length : Int), rfl, by omega, by omega, fun D hD => lc_range (fun i H' => ∃ ys ls : List V, But s H H' ∧ WellAt H' s (n + i) ∧ H' l = some (.lst ls) ∧ H' D = some (.lst ys) ∧ (ys ++ ls).Perm xs ∧ ys.length = i) ?_ ?_ ?_⟩
    · have sD := same_new hD (o := .lst [])
      exact ⟨[], xs, but_of_same (sml.trans sD), hwl.same sD, sD _ _ hll, upd_same, List.Perm.refl _, rfl⟩
    · rintro i H2 hi ⟨ys, ls, bt2, hw2, hl2, hD2, hp, hy⟩
      have hi : i < xs.length := by simpa using hi
      have hlen := hp.length_eq
      rw [List.length_append] at hlen
      refine ⟨rfl, tyes (iteT ?_)⟩
      refine ⟨_, rfl, .inl ⟨rfl, _, SqL.of hl2⟩, _, rfl, _, rfl, _, _, rfl, .inl (SqL.of hl2), s, _, n + i, rfl, hw2, by omega, by omega, by omega, fun j H3 j0 j1 bt3 hw3 => ?_⟩
      have hl3 := bt3 _ _ nls hl2
      have nlD : l ≠ D := ne_of_none hll hD
      have hDs : D ≠ s := by
        obtain ⟨o, ho⟩ := hwl.some
        exact (ne_of_none ho hD).symm
      have hD3 := bt3 _ _ hDs hD2
      obtain ⟨v, hv, _⟩ := atI_some j0 j1
      obtain ⟨k, hk, hkv, hkl⟩ := atI_get hv
      refine ⟨l, ls, j, k, v, rfl, rfl, hl3, by omega, by omega, hk, hkv, ?_⟩
      have hl0' : H l = none := hl0
      have hD0 : H D = none := sml.free hD
      refine ⟨_, by rw [upd_ne nlD.symm]; exact hD3, by have := sl1 (n := ys.length) (by omega); exact this, ys ++ [v], ls.eraseIdx k, ((bt2.trans bt3).cell hl0' _).cell hD0 _, (hw3.cell hw hl0').cell hwl hD, by rw [upd_ne nlD, upd_same], upd_same, ?_, by simp [hy]⟩
      have h1 : (v :: ls.eraseIdx k).Perm ls := by
        have e : ls = ls.take k ++ v :: ls.drop (k + 1) := by
          conv => lhs; rw [← List.take_append_drop k ls, List.drop_eq_getElem_cons hkl.1]
          rw [(List.getElem?_eq_some_iff.mp hkv).2]
        rw [List.eraseIdx_eq_take_drop_succ]
        conv => rhs; rw [e]
        exact List.perm_middle.symm
      have h2 : (ys ++ [v] ++ ls.eraseIdx k).Perm (ys ++ ls) := by
        rw [List.append_assoc]
        exact (List.Perm.refl ys).append h1
      exact h2.trans hp
    · rintro H2 ⟨ys, ls, bt2, hw2, hl2, hD2, hp, hy⟩
      have hy : ys.length = xs.length := by simpa using hy
      have hlen := hp.length_eq
      rw [List.length_append] at hlen
      have e : ls = [] := List.eq_nil_of_length_eq_zero (by omega)
      rw [e, List.append_nil] at hp
      exact q D H2 ys (sml.free hD) bt2 (by simpa using hw2) hD2 hp
end
end SG
namespace SG
open PySem PySem.Spec PyProof.Rows L2 LamX
section
variable {P : Program} {w : World} {K : PySem.W.Frag} {mg : Str → Option Value} {base : Heap} {A : Ad}
theorem ok__law_rules (T : Txt K mg A) : FnOk P w K mg base CX0 3 A.a__law_rules A.d__law_rules ["_law_well_here", "_law_names_here", "_law_signs_here", "_law_plain", "_law_most"] sp_rulesK := by
  have G__law_draw : FnOk P w K mg base CX0 1 A.a__law_draw A.d__law_draw ["_law_well_here", "_law_many"] sp_draw := ok__law_draw T
  have G__law_one : FnOk P w K mg base CX0 2 A.a__law_one A.d__law_one ["_law_well_here", "_law_some"] sp_one := ok__law_one T
  refine T.F__law_rules.ok sc__law_rules (fun vs H Q E h => ?_) (fun cdv A0 outer s0 H vs Q E hr h => ?_)
  · obtain ⟨_, _, _, _, _, _, _, _, rfl, _⟩ := h
    rfl
  · obtain ⟨s, nl, sg, plain, B, names, signs, n, rfl, hB1, hw, hn, hnl, hsg, nnd, n1, n6, sne, slen, sok, q⟩ := h
    have hu := hu_of hr
    have hu64 := hu64_of hr
    have nne : names ≠ [] := fun e => by rw [e] at n1; simp at n1
    refine ⟨_, (pss_cons (ps_set (i := 5) sc__law_rules.nd rfl (Or.inl rfl) (pe_lst pa_nil))
 (pss_cons (ps_set (i := 6) sc__law_rules.nd rfl (Or.inr rfl) pe_dnewK)
 (pss_cons (ps_for PassesOwn.never rfl (pi_enum (by rfl) T.enumerate (pa_cons (pv 1) pa_nil)) (pg_tup (by rfl) (pgs_cons (pg_name (i := 7) sc__law_rules.nd rfl (Or.inl rfl)) (pgs_cons (pg_name (i := 8) sc__law_rules.nd rfl (Or.inr rfl)) pgs_nil)))
 (pss_cons (ps_set (i := 9) sc__law_rules.nd rfl (Or.inl rfl) (pe_lst pa_nil))
 (pss_cons (ps_for PassesOwn.never rfl (pi_range1 (by rfl) T.range (pa_cons (pe_op op_mul (pe_call G__law_one (hr.mono (by decide)) (by rfl) T.g__law_one T.F__law_one.kp T.b__law_one .nil pass0 (pa_cons (pv 0) (pa_cons (pe_lst (pa_cons pe_int (pa_cons pe_int (pa_cons pe_int (pa_cons pe_int (pa_cons pe_int pa_nil)))))) pa_nil))) (pe_callTy (T := "int") call_int1 (by rfl) T.int_ (by decide +kernel) (pa_cons (pe_cmpR op_gt (pv 7) pe_int (nomark _)) pa_nil))) pa_nil)) (pg_name (i := 10) sc__law_rules.nd rfl (Or.inl rfl))
 (pss_cons (ps_set (i := 11) sc__law_rules.nd rfl (Or.inl rfl) (pe_call G__law_one (hr.mono (by decide)) (by rfl) T.g__law_one T.F__law_one.kp T.b__law_one .nil pass0 (pa_cons (pv 0) (pa_cons (pe_slice (r := rSlL K) sl_list (pv 1) po_none (po_some (pv 7))) pa_nil))))
 (pss_one (ps_if (pt_cmpR op_lt (pe_op op_add (pe_callB (id := "sum") (r := rSum K) (cr_sum rfl) (by rfl) T.sum (by decide +kernel) (pa_cons (pe_lc (own := [("_law_other", 15)]) (g := gName 15) (by rfl) sc__law_rules.nd (pi_list (pv 9)) (blkOk_by (own := [("_law_other", 15)]) (N := ["_law_well_here", "_law_names_here", "_law_signs_here", "_law_plain", "_law_most", "_law_rules_here", "_law_known", "_law_k", "_law_name", "_law_row_here", "_law_j", "_law_one_here", "_law_letter", "_law_rule", "_law_mine", "_law_other"]) (sc := defScope s__law_rules) (by decide +kernel)) (fun _ _ _ _ _ => (pg_name (i := 15) sc__law_rules.nd rfl (Or.inl rfl))) (fun _ _ _ _ _ => pts_nil) (fun _ _ _ _ _ => (pe_dget hu (pv 6) (pv 15) (fun _ _ => rfl)))) pa_nil)) (pe_dget hu (pv 6) (pv 11) (fun _ _ => rfl))) (pv 4) (nomark _)) (pss_one (ps_expr (pe_bm PySem.F.plainAttrs_list PySem.F.slot_list_append PySem.F.type_list_append mt_append (pv 9) (pa_cons (pv 11) pa_nil)))) pss_nil))))
 (pss_cons (ps_dput hu (pv 6) (pv 8) (pe_op op_add pe_int (pe_callB (id := "sum") (r := rSum K) (cr_sum rfl) (by rfl) T.sum (by decide +kernel) (pa_cons (pe_lc (own := [("_law_other", 15)]) (g := gName 15) (by rfl) sc__law_rules.nd (pi_list (pv 9)) (blkOk_by (own := [("_law_other", 15)]) (N := ["_law_well_here", "_law_names_here", "_law_signs_here", "_law_plain", "_law_most", "_law_rules_here", "_law_known", "_law_k", "_law_name", "_law_row_here", "_law_j", "_law_one_here", "_law_letter", "_law_rule", "_law_mine", "_law_other"]) (sc := defScope s__law_rules) (by decide +kernel)) (fun _ _ _ _ _ => (pg_name (i := 15) sc__law_rules.nd rfl (Or.inl rfl))) (fun _ _ _ _ _ => pts_nil) (fun _ _ _ _ _ => (pe_dget hu (pv 6) (pv 15) (fun _ _ => rfl)))) pa_nil))) rfl)
 (pss_one (ps_expr (pe_bm PySem.F.plainAttrs_list PySem.F.slot_list_append PySem.F.type_list_append mt_append (pv 5) (pa_cons (pe_tup (pa_cons (pv 8) (pa_cons (pe_call G__law_one (hr.mono (by decide)) (by rfl) T.g__law_one T.F__law_one.kp T.b__law_one .nil pass0 (pa_cons (pv 0) (pa_cons (pv 2) pa_nil))) (pa_cons (pv 9) pa_nil)))) pa_nil))))))))
 (pss_cons (ps_for PassesOwn.never rfl (pi_range1 (by rfl) T.range (pa_cons (pe_call G__law_draw (hr.mono (by decide)) (by rfl) T.g__law_draw T.F__law_draw.kp T.b__law_draw .nil pass0 (pa_cons (pv 0) (pa_cons (pe_op op_add pe_int (pe_op op_mul pe_int (pe_callB (id := "len") (r := Evl.rLenS K) call_len_seq (by rfl) T.len (by decide +kernel) (pa_cons (pv 1) pa_nil)))) pa_nil))) pa_nil)) (pg_name (i := 7) sc__law_rules.nd rfl (Or.inl rfl))
 (pss_cons (ps_asg (pe_tup (pa_cons (pe_call G__law_one (hr.mono (by decide)) (by rfl) T.g__law_one T.F__law_one.kp T.b__law_one .nil pass0 (pa_cons (pv 0) (pa_cons (pv 1) pa_nil))) (pa_cons (pe_call G__law_one (hr.mono (by decide)) (by rfl) T.g__law_one T.F__law_one.kp T.b__law_one .nil pass0 (pa_cons (pv 0) (pa_cons (pv 2) pa_nil))) pa_nil))) (pg_tup (by rfl) (pgs_cons (pg_name (i := 8) sc__law_rules.nd rfl (Or.inr rfl)) (pgs_cons (pg_name (i := 12) sc__law_rules.nd rfl (Or.inl rfl)) pgs_nil))))
 (pss_cons (ps_set (i := 13) sc__law_rules.nd rfl (Or.inl rfl) (pe_tup (pa_cons (pv 8) (pa_cons (pv 12) (pa_cons (pe_lc (own := [("_law_j", 10)]) (g := gName 10) (by rfl) sc__law_rules.nd (pi_range1 (by rfl) T.range (pa_cons (pe_call G__law_one (hr.mono (by decide)) (by rfl) T.g__law_one T.F__law_one.kp T.b__law_one .nil pass0 (pa_cons (pv 0) (pa_cons (pe_lst (pa_cons pe_int (pa_cons pe_int (pa_cons pe_int (pa_cons pe_int pa_nil))))) pa_nil))) pa_nil)) (blkOk_by (own := [("_law_j", 10)]) (N := ["_law_well_here", "_law_names_here", "_law_signs_here", "_law_plain", "_law_most", "_law_rules_here", "_law_known", "_law_k", "_law_name", "_law_row_here", "_law_j", "_law_one_here", "_law_letter", "_law_rule", "_law_mine", "_law_other"]) (sc := defScope s__law_rules) (by decide +kernel)) (fun _ _ _ _ _ => (pg_name (i := 10) sc__law_rules.nd rfl (Or.inl rfl))) (fun _ _ _ _ _ => pts_nil) (fun _ _ _ _ _ => (pe_call G__law_one (hr.mono (by decide)) (by rfl) T.g__law_one T.F__law_one.kp T.b__law_one .nil pass0 (pa_cons (pv 0) (pa_cons (pv 1) pa_nil))))) pa_nil)))))
 (pss_cons (ps_setLc (i := 14) (own := [("_law_other", 15)]) (g := gName 15) (by rfl) sc__law_rules.nd rfl rfl (sw_true rfl rfl rfl (by decide +kernel)) (pi_list (pv 5)) (blkOk_by (own := [("_law_other", 15)]) (N := ["_law_well_here", "_law_names_here", "_law_signs_here", "_law_plain", "_law_most", "_law_rules_here", "_law_known", "_law_k", "_law_name", "_law_row_here", "_law_j", "_law_one_here", "_law_letter", "_law_rule", "_law_mine", "_law_other"]) (sc := defScope s__law_rules) (by decide +kernel)) (fun _ _ _ _ _ => (pg_name (i := 15) sc__law_rules.nd rfl (Or.inl rfl))) (fun _ _ _ _ _ => pts_one (pt_cmpR op_eq (pe_ix (r := rIxT K) ix_tup (pv 15) pe_int (fun _ _ => rfl)) (pv 8) (nomark _))) (fun _ _ _ _ _ => (pv 15)))
 (pss_one (ps_if (PW.pt (pw_and (pt_cmpR op_lt (pe_callB (id := "len") (r := Evl.rLenS K) call_len_seq (by rfl) T.len (by decide +kernel) (pa_cons (pv 14) pa_nil)) pe_int (nomark _)) (pw_and (pt_cmpR (r := rNotInP K) (op_notInP hu64) (pv 13) (pv 14) (by rfl)) (pw_and1 (pt_not (PW.pt (pw_and (pt_val (pv 3)) (pw_and1 (pt_cmpR (r := rInP K) (op_inP hu64) (pv 12) (pe_lc (own := [("_law_other", 15)]) (g := gName 15) (by rfl) sc__law_rules.nd (pi_list (pv 14)) (blkOk_by (own := [("_law_other", 15)]) (N := ["_law_well_here", "_law_names_here", "_law_signs_here", "_law_plain", "_law_most", "_law_rules_here", "_law_known", "_law_k", "_law_name", "_law_row_here", "_law_j", "_law_one_here", "_law_letter", "_law_rule", "_law_mine", "_law_other"]) (sc := defScope s__law_rules) (by decide +kernel)) (fun _ _ _ _ _ => (pg_name (i := 15) sc__law_rules.nd rfl (Or.inl rfl))) (fun _ _ _ _ _ => pts_nil) (fun _ _ _ _ _ => (pe_ix (r := rIxT K) ix_tup (pv 15) pe_int (fun _ _ => rfl)))) (by rfl)))))))))) (pss_one (ps_expr (pe_bm PySem.F.plainAttrs_list PySem.F.slot_list_append PySem.F.type_list_append mt_append (pv 5) (pa_cons (pv 13) pa_nil)))) pss_nil))))))
 (pss_one (ps_ret (pe_tup (pa_cons (pv 5) (pa_cons (pv 6) pa_nil))))))))), ?_⟩
    refine ⟨Nat.zero_le _, fun ru hru => ?_⟩
    intro kn hkn
    have hkn0 : H kn = none := (same_new hru).free hkn
    have nkr : kn ≠ ru := (ne_of_none upd_same hkn).symm
    have b0 : BuiltB H (upd (upd H ru (.lst [])) kn (.dK [])) s nl sg ru names signs [] := by
      have e := (same_new hru (o := .lst [])).trans (same_new hkn (o := .dK []))
      exact ⟨but_of_same e, e _ _ hnl, e _ _ hsg, [], same_new hkn _ _ upd_same, .nil⟩
    have w0 : WellAt (upd (upd H ru (.lst [])) kn (.dK [])) s n := hw.same ((same_new hru (o := .lst [])).trans (same_new hkn (o := .dK [])))
    have k0 : (upd (upd H ru (.lst [])) kn (.dK [])) kn = some (.dK []) := upd_same
    generalize (upd (upd H ru (.lst [])) kn (.dK [])) = H0 at b0 w0 k0 ⊢
    refine ⟨_, rfl, nl, _, rfl, SqL.of b0.nm, for_it (walk_enum (K := K) (a := nl) (xs := names.map V.str)) (fun i σ' H' => ∃ (x7 x8 x9 x10 x11 : Option V) (kvs : List (Key × V)) (rs : List Rule), σ' = [some (.ref s), some (.ref nl), some (.ref sg), some (.bl plain), some (.int (B : Int)), some (.ref ru), some (.ref kn), x7, x8, x9, x10, x11, none, none, none, none] ∧ BuiltB H H' s nl sg ru names signs rs ∧ WellAt H' s (n + 10 * i) ∧ H' kn = some (.dK kvs) ∧ kvs.length ≤ i ∧ (∀ x ∈ names.take i, KwOk kvs rs B x) ∧ rs.map (·.1) = names.take i ∧ (∀ r ∈ rs, r.1 ∈ names ∧ r.2.1 ∈ signs ∧ r.2.2.length ≤ 3 ∧ ∀ x ∈ r.2.2, x ∈ names) ∧ EndsR (names.take i) rs ∧ PlainR rs) ?_ ?_ ?_ ?_⟩
    · exact ⟨_, _, _, _, _, [], [], rfl, b0, w0, k0, Nat.le_refl _, fun x h => by simp at h, by simp, fun r h => by simp at h, fun x h => by simp at h, fun n => List.nodup_nil⟩
    · rintro i σ' H' _ ⟨_, _, _, _, _, _, _, rfl, b, _⟩
      exact SqL.of b.nm
    · clear b0 w0 k0
      rintro i x σ' H6 H7 hi ⟨x7, x8, x9, x10, x11, kvs, rs, rfl, b6, w6, hk6, hkl, hval, hmap, hok, hends, hpl⟩ ⟨T0, y1, y2, rfl, hT, rfl, e1, e2⟩
      have e1 := Option.some.inj e1
      subst e1
      obtain ⟨nk, hnk, rfl⟩ := map_at e2
      have hil : i < names.length := (List.getElem?_eq_some_iff.mp hnk).1
      have hnkm := List.mem_of_getElem? hnk
      have smT := same_new hT (o := .tup [.int i, .str nk])
      refine ⟨T0, _, rfl, SqT.of upd_same, rfl, _, _, rfl, _, _, rfl, rfl, ?_⟩
      have b7 := b6.same smT
      have w7 := w6.same smT
      have hk7 := smT _ _ hk6
      generalize (upd H6 T0 (.tup [.int i, .str nk])) = H7 at b7 w7 hk7 ⊢
      clear b6 w6 hk6 smT hT
      -- row = []
      refine ⟨Nat.zero_le _, fun ra hra => ?_⟩
      have smr := same_new hra (o := .lst [])
      have hra0 : H ra = none := b7.bt.freeW w7 hra
      have hrs : ra ≠ s := by
        obtain ⟨o, ho⟩ := w7.some
        exact (ne_of_none ho hra).symm
      have hra8 : (upd H7 ra (.lst [])) ra = some (.lst (([] : List Str).map V.str)) := upd_same
      have w8 := w7.same smr
      have bt78 : But s H7 (upd H7 ra (.lst [])) := but_of_same smr
      generalize (upd H7 ra (.lst [])) = H8 at smr hra8 w8 bt78 ⊢
      -- how many
      refine ⟨_, rfl, sl2 (by show 5 ≤ 1000000; decide), fun zl hzl => ?_⟩
      have smz := same_new hzl (o := .lst [.int 0, .int 1, .int 1, .int 2, .int 3])
      have nzs : zl ≠ s := by
        obtain ⟨o, ho⟩ := w8.some
        exact (ne_of_none ho hzl).symm
      refine ⟨s, zl, [.int 0, .int 1, .int 1, .int 2, .int 3], n + 10 * i, rfl, w8.same smz, by omega, upd_same, nzs, by decide, by decide, fun v H9 hv bt9 w9 => ?_⟩
      have hra9 : H9 ra = some (.lst (([] : List Str).map V.str)) := bt9 _ _ hrs (smz _ _ hra8)
      have bt79 : But s H7 H9 := (bt78.same smz).trans bt9
      clear bt9 smz hzl nzs hra8 bt78 smr w8
      obtain ⟨z, rfl, z0, z3⟩ : ∃ z : Int, v = .int z ∧ 0 ≤ z ∧ z ≤ 3 := by
        simp only [List.mem_cons, List.not_mem_nil, or_false] at hv
        rcases hv with rfl | rfl | rfl | rfl | rfl
        · exact ⟨0, rfl, by decide, by decide⟩
        · exact ⟨1, rfl, by decide, by decide⟩
        · exact ⟨1, rfl, by decide, by decide⟩
        · exact ⟨2, rfl, by decide, by decide⟩
        · exact ⟨3, rfl, by decide, by decide⟩
      refine ⟨_, rfl, _, _, rfl, rfl, .inr ⟨_, rfl, _, _, rfl, rfl, ?_⟩⟩
      obtain ⟨cnt, hcnt, hc3, hc0⟩ : ∃ c : Nat, z * (if decide (0 < (i : Int)) = true then 1 else 0) = (c : Int) ∧ c ≤ 3 ∧ (0 < c → 0 < i) := by
        by_cases hi0 : 0 < i
        · refine ⟨z.toNat, ?_, by omega, fun _ => hi0⟩
          rw [decide_eq_true (show 0 < (i : Int) by omega), if_pos rfl]
          omega
        · refine ⟨0, ?_, by omega, fun h => by omega⟩
          rw [decide_eq_false (show ¬ 0 < (i : Int) by omega), if_neg (by decide)]
          omega
      refine ⟨.inl ⟨by omega, by omega⟩, (cnt : Int), congrArg (fun q => [V.int q]) hcnt, by omega, by omega, for_range (n := cnt) (fun j σ' H' => ∃ (x10 x11 : Option V) (row : List Str), σ' = [some (.ref s), some (.ref nl), some (.ref sg), some (.bl plain), some (.int (B : Int)), some (.ref ru), some (.ref kn), some (.int (i : Int)), some (.str nk), some (.ref ra), x10, x11, none, none, none, none] ∧ But s H7 H' ∧ WellAt H' s (n + 10 * i + 1 + j) ∧ H' ra = some (.lst (row.map V.str)) ∧ row.length ≤ j ∧ (row = [] ∨ (row.map (intOf kvs)).sum < (B : Int)) ∧ ∀ x ∈ row, x ∈ names.take i) ?_ ?_ ?_⟩
      · exact ⟨_, _, [], rfl, bt79, w9, hra9, Nat.le_refl _, .inl rfl, fun x h => by simp at h⟩
      · clear hra9 bt79 w9 H9 hcnt
        rintro j σ' H9 hj ⟨x10, x11, row, rfl, bt9, w9, hr9, hrl, hrs9, hsub⟩
        have hi0 : 0 < i := hc0 (by omega)
        have b9 := b7.but w7 bt9
        refine ⟨_, rfl, _, rfl, _, rfl, _, rfl, nl, _, rfl, SqL.of b9.nm, fun p0 hp0 => ?_⟩
        have e10 := same_new hp0 (o := .lst (cutV (names.map V.str) none (some (i : Int))))
        have hp10 : (upd H9 p0 (.lst (cutV (names.map V.str) none (some (i : Int))))) p0 = some (.lst ((names.take i).map V.str)) := by
          rw [upd_same, cut_lt, List.map_take]
        have nps : p0 ≠ s := by
          obtain ⟨o, ho⟩ := w9.some
          exact (ne_of_none ho hp0).symm
        have w10 := w9.same e10
        have htl : ((names.take i).map V.str).length = i := by rw [List.length_map, List.length_take]; omega
        refine ⟨s, p0, (names.take i).map V.str, _, rfl, w10, by omega, hp10, nps, by omega, by omega, fun v H11 hv bt11 w11 => ?_⟩
        obtain ⟨o, ho, rfl⟩ := List.mem_map.mp hv
        have hr10 := e10 _ _ hr9
        have hr11 := bt11 _ _ (w10.ne_strs hr10) hr10
        have bt711 : But s H7 H11 := (bt9.same e10).trans bt11
        have hk11 := bt711 _ _ (w7.ne_dk hk7) hk7
        clear hr10 bt11 hp10 e10 hp0 nps w10 hv b9 bt9 w9 hr9
        have hval' : ∀ x ∈ row, valV kvs (Sum.inr x : Key) = some (.int (intOf kvs x)) := fun x hx => intOf_eq (hval x (hsub x hx)).val
        have hvo : valV kvs (Sum.inr o : Key) = some (.int (intOf kvs o)) := intOf_eq (hval o ho).val
        refine ⟨_, rfl, ra, rfl, ⟨_, SqL.of hr11⟩, fun D hD => lc_scal (K := K) (ys := (row.map (intOf kvs)).map V.int) (SqL.of hr11) hD (by simp) (by rw [List.length_map]; omega) (fun _ => rfl) (fun i x y H' Q' g1 g2 sm k => ?_) (fun H12 sm12 hl12 => ?_)⟩
        · obtain ⟨x1, hx1, rfl⟩ := map_at g1
          have hx2 : (row.map (intOf kvs))[i]? = some (intOf kvs x1) := by rw [List.getElem?_map, hx1]; rfl
          have ey := map_get hx2 g2
          subst ey
          exact ⟨_, rfl, _, rfl, kn, _, rfl, .inl ⟨kvs, Sum.inr x1, .inl (sm _ _ hk11), rfl, (hval' x1 (List.mem_of_getElem? hx1)).symm⟩, k _ fun _ _ h => h⟩
        have hk12 := sm12 _ _ hk11
        have hr12 := sm12 _ _ hr11
        refine ⟨D, _, rfl, SqL.of hl12, _, rfl, _, rfl, kn, _, rfl, .inl ⟨kvs, Sum.inr o, .inl hk12, rfl, hvo.symm⟩, _, _, rfl, rfl, _, rfl, _, _, rfl, rfl, _, rfl, iteB (fun hlt => ?_) (fun _ => ?_)⟩
        · refine ⟨_, rfl, .inl ⟨rfl, _, SqL.of hr12⟩, _, rfl, ra, _, _, rfl, rfl, hr12, by rw [List.length_map]; exact sl1 (by omega), ?_⟩
          have hra7 : H7 ra = none := hra
          refine ⟨_, _, row ++ [o], rfl, (bt711.same sm12).cell hra7 _, ((w11.same sm12).cell w7 hra7).mono (by omega), by rw [upd_same, List.map_append]; rfl, by rw [List.length_append]; exact Nat.succ_le_succ hrl, .inr (by rw [List.map_append, List.sum_append]; have h9 := of_decide_eq_true hlt; simpa using h9), fun x hx => ?_⟩
          rcases List.mem_append.mp hx with hx | hx
          · exact hsub x hx
          · rw [List.mem_singleton.mp hx]; exact ho
        · exact ⟨_, _, row, rfl, bt711.same sm12, (w11.same sm12).mono (by omega), hr12, by omega, hrs9, hsub⟩
      clear hra9 bt79 w9 H9 hcnt
      rintro σ' H9 ⟨x10, x11, row, rfl, bt9, w9, hr9, hrl, hrs9, hsub⟩
      have hrl3 : row.length ≤ 3 := by omega
      -- known[name] = 1 + sum
      have hk9 := bt9 _ _ (w7.ne_dk hk7) hk7
      have b9 := b7.but w7 bt9
      have hval' : ∀ x ∈ row, valV kvs (Sum.inr x : Key) = some (.int (intOf kvs x)) := fun x hx => intOf_eq (hval x (hsub x hx)).val
      refine ⟨_, rfl, ra, rfl, ⟨_, SqL.of hr9⟩, fun D hD => lc_scal (K := K) (ys := (row.map (intOf kvs)).map V.int) (SqL.of hr9) hD (by simp) (by rw [List.length_map]; omega) (fun _ => rfl) (fun i x y H' Q' g1 g2 sm k => ?_) (fun H12 sm12 hl12 => ?_)⟩
      · obtain ⟨x1, hx1, rfl⟩ := map_at g1
        have hx2 : (row.map (intOf kvs))[i]? = some (intOf kvs x1) := by rw [List.getElem?_map, hx1]; rfl
        have ey := map_get hx2 g2
        subst ey
        exact ⟨_, rfl, _, rfl, kn, _, rfl, .inl ⟨kvs, Sum.inr x1, .inl (sm _ _ hk9), rfl, (hval' x1 (List.mem_of_getElem? hx1)).symm⟩, k _ fun _ _ h => h⟩
      have b12 := b9.same sm12
      have hk12 := sm12 _ _ hk9
      have hr12 := sm12 _ _ hr9
      have w12 := w9.same sm12
      refine ⟨D, _, rfl, SqL.of hl12, _, _, rfl, rfl, _, rfl, _, rfl, kn, _, rfl, DPut.k (k := Sum.inr nk) hk12 (sl1 (by omega)), ?_⟩
      generalize hkv : putK kvs (Sum.inr nk : Key) (V.int (1 + (row.map (intOf kvs)).sum)) = kvs2
      have b13 := b12.dict (kvs2 := kvs2) hk12 hkn0
      have hkn12 := hk12
      have w13 : WellAt (upd H12 kn (.dK kvs2)) s (n + 10 * i + 1 + cnt) := w12.cell hw hkn0
      have nrk : ra ≠ kn := fun z => by rw [z, hk12] at hr12; cases hr12
      have hr13 : (upd H12 kn (.dK kvs2)) ra = some (.lst (row.map V.str)) := by rw [upd_ne nrk]; exact hr12
      have hk13 : (upd H12 kn (.dK kvs2)) kn = some (.dK kvs2) := upd_same
      generalize (upd H12 kn (.dK kvs2)) = H13 at b13 w13 hr13 hk13 ⊢
      -- rules.append((name, one(well, signs), row))
      obtain ⟨ts, hts, htp⟩ := b13.tr
      refine ⟨_, rfl, .inl ⟨rfl, _, SqL.of hts⟩, _, rfl, _, rfl, _, rfl, s, sg, signs.map V.str, _, rfl, w13, by omega, b13.sn, w13.ne_strs b13.sn, by rw [List.length_map]; exact List.length_pos_iff.mpr sne, by rw [List.length_map]; omega, fun v H14 hv bt14 w14 => ?_⟩
      obtain ⟨c1, hc1, rfl⟩ := List.mem_map.mp hv
      have b14 := b13.but w13 bt14
      have hts14 := bt14 _ _ (w13.ne_refs hts) hts
      have hr14 := bt14 _ _ (w13.ne_strs hr13) hr13
      have hk14 := bt14 _ _ (w13.ne_dk hk13) hk13
      refine ⟨_, rfl, sl2 (by show 3 ≤ 1000000; decide), fun t ht => ?_⟩
      have e15 := same_new ht (o := .tup [.str nk, .str c1, .ref ra])
      have b15 := b14.same e15
      have w15 := w14.same e15
      have hts15 := e15 _ _ hts14
      have hl : rs.length = i := by
        have := congrArg List.length hmap
        rw [List.length_map, List.length_take] at this
        omega
      have hl2 : ts.length = i := by rw [paired_len htp, hl]
      refine ⟨_, _, _, rfl, rfl, hts15, by rw [List.length_map]; exact sl1 (by omega), ?_⟩
      have nraru : ra ≠ ru := fun z => by
        obtain ⟨ts', g1, g2⟩ := b7.tr
        rw [z, g1] at hra
        cases hra
      have htt : (upd H14 t (.tup [.str nk, .str c1, .ref ra])) t = some (.tup [.str nk, .str c1, .ref ra]) := upd_same
      have ht0 : H t = none := b14.bt.freeW w14 ht
      have b16 := b15.put hru nne sne hts15 (r := (nk, c1, row)) nraru ⟨ht0, ra, hra0, htt, e15 _ _ hr14⟩ htt
      have hnew : nk ∉ names.take i := not_mem_take_nd nnd hnk
      have hro : rulesOf rs nk = [] := by
        rw [List.eq_nil_iff_forall_not_mem]
        intro p hp
        have h1 := mem_rulesOf.mp hp
        apply hnew
        rw [← hmap]
        exact List.mem_map.mpr ⟨_, h1, rfl⟩
      refine ⟨_, _, _, _, _, kvs2, rs ++ [(nk, c1, row)], rfl, b16, (w15.cell hw hru).mono (by omega), by rw [upd_ne nkr]; exact e15 _ _ hk14, ?_, ?_, ?_, ?_, ?_, ?_⟩
      · have := putK_le kvs (Sum.inr nk : Key) (V.int (1 + (row.map (intOf kvs)).sum))
        rw [hkv] at this
        omega
      · intro x hx
        rw [take_snoc hnk] at hx
        rw [← hkv]
        by_cases e : x = nk
        · rw [e]
          refine KwOk.new (fun y hy => hval y (hsub y hy)) ?_
          rcases hrs9 with h9 | h9
          · rw [h9]
            simp
            omega
          · omega
        · rcases List.mem_append.mp hx with hx | hx
          · exact ((hval x hx).more fun r hr => List.mem_append_left _ hr).put e _
          · exact absurd (List.mem_singleton.mp hx) e
      · rw [List.map_append, hmap, take_snoc hnk]; rfl
      · intro r hr1
        rcases List.mem_append.mp hr1 with hr1 | hr1
        · exact hok r hr1
        · rw [List.mem_singleton.mp hr1]
          exact ⟨hnkm, hc1, hrl3, fun x hx => List.mem_of_mem_take (hsub x hx)⟩
      · rw [take_snoc hnk]
        exact hends.put (r := (nk, c1, row)) hsub
      · refine hpl.put ?_
        rw [show (nk, c1, row).1 = nk from rfl, hro]
        simp
    -- more rules
    clear b0 w0 k0
    rintro σ' H7 ⟨x7, x8, x9, x10, x11, kvs, rs, rfl, b, w7, hk7, hkl, hval, hmap, hok, hends, hpl⟩
    rw [List.length_map] at w7 hkl hval hmap hends
    rw [List.take_length] at hval hmap hends
    have hrn : rs.Nodup := (List.pairwise_map.mp (hmap ▸ nnd)).imp fun h e => h (by rw [e])
    have hl0 : rs.length ≤ 6 := by
      have := congrArg List.length hmap
      rw [List.length_map] at this
      omega
    have hfew : ∀ n, (rulesOf rs n).length ≤ 4 := (GoodR.of (k := 0) hrn (okL sok hok) (FewR.first nnd hmap)).few
    have hkw : kvs.length ≤ 6 ∧ ∀ x ∈ names, KwOk kvs rs B x := ⟨by omega, hval⟩
    clear hval hkl hmap
    refine ⟨_, rfl, _, rfl, _, _, rfl, .inl (SqL.of b.nm), _, _, rfl, rfl, .inl ⟨by decide, by decide⟩, _, _, rfl, rfl, s, _, _, rfl, w7, by omega, by rw [List.length_map]; omega, by rw [List.length_map]; omega, fun m H8 m0 m1 bt8 w8 => ?_⟩
    have b8 := b.but w7 bt8
    have hk8 := bt8 _ _ (w7.ne_dk hk7) hk7
    rw [List.length_map] at m1
    refine ⟨_, rfl, by omega, by omega, for_range (fun k σ' H' => ∃ (x7 x8 x9 x10 x11 x12 x13 x14 : Option V) (rs : List Rule) (kvs : List (Key × V)), σ' = [some (.ref s), some (.ref nl), some (.ref sg), some (.bl plain), some (.int (B : Int)), some (.ref ru), some (.ref kn), x7, x8, x9, x10, x11, x12, x13, x14, none] ∧ BuiltB H H' s nl sg ru names signs rs ∧ WellAt H' s (n + 100 + 10 * k) ∧ H' kn = some (.dK kvs) ∧ (kvs.length ≤ 6 ∧ ∀ x ∈ names, KwOk kvs rs B x) ∧ rs.Nodup ∧ (∀ n, (rulesOf rs n).length ≤ 4) ∧ rs.length ≤ 6 + k ∧ (∀ r ∈ rs, r.1 ∈ names ∧ r.2.1 ∈ signs ∧ r.2.2.length ≤ 3 ∧ ∀ x ∈ r.2.2, x ∈ names) ∧ EndsR names rs ∧ (plain = true → PlainR rs)) ?_ ?_ ?_⟩
    · exact ⟨_, _, _, _, _, _, _, _, rs, kvs, rfl, b8, w8.mono (by omega), hk8, hkw, hrn, hfew, by omega, hok, hends, fun _ => hpl⟩
    · clear b w7 hk7 hkw hok hends hpl hrn hl0 hfew bt8 w8 b8 hk8 rs kvs
      rintro k σ' H9 hk ⟨x7, x8, x9, x10, x11, x12, x13, x14, rs, kvs, rfl, b, w9, hk9, hkw, hrn, hfew, hl, hok, hends, hpl⟩
      have hk13 : k < 13 := by omega
      -- name, letter
      have nlen : 0 < (names.map V.str).length := by rw [List.length_map]; omega
      have slen0 : 0 < (signs.map V.str).length := by rw [List.length_map]; exact List.length_pos_iff.mpr sne
      refine ⟨_, rfl, _, rfl, s, nl, names.map V.str, _, rfl, w9, by omega, b.nm, w9.ne_strs b.nm, nlen, by rw [List.length_map]; omega, fun v H10 hv bt10 w10 => ?_⟩
      obtain ⟨nk, hnkm, rfl⟩ := List.mem_map.mp hv
      have b10 := b.but w9 bt10
      have hk10 := bt10 _ _ (w9.ne_dk hk9) hk9
      refine ⟨_, rfl, _, rfl, s, sg, signs.map V.str, _, rfl, w10, by omega, b10.sn, w10.ne_strs b10.sn, slen0, by rw [List.length_map]; omega, fun v H11 hv2 bt11 w11 => ?_⟩
      obtain ⟨c1, hc1, rfl⟩ := List.mem_map.mp hv2
      have b11 := b10.but w10 bt11
      have hk11 := bt11 _ _ (w10.ne_dk hk10) hk10
      refine ⟨sl2 (by show 2 ≤ 1000000; decide), fun T1 hT1 => ?_⟩
      have smT := same_new hT1 (o := .tup [.str nk, .str c1])
      refine ⟨T1, _, rfl, SqT.of upd_same, rfl, _, _, rfl, _, _, rfl, rfl, ?_⟩
      have b12 := b11.same smT
      have w12 := w11.same smT
      have hk12 := smT _ _ hk11
      generalize (upd H11 T1 (.tup [.str nk, .str c1])) = H12 at b12 w12 hk12 ⊢
      clear smT hT1 hv hv2 bt10 bt11 b11 w11 hk11 b10 w10 hk10 b w9 hk9
      -- rule
      refine ⟨_, rfl, _, rfl, _, rfl, sl2 (by show 4 ≤ 1000000; decide), fun zl hzl => ?_⟩
      have smz := same_new hzl (o := .lst [.int 0, .int 1, .int 2, .int 3])
      have nzs : zl ≠ s := by
        obtain ⟨o, ho⟩ := w12.some
        exact (ne_of_none ho hzl).symm
      refine ⟨s, zl, [.int 0, .int 1, .int 2, .int 3], _, rfl, w12.same smz, by omega, upd_same, nzs, by decide, by decide, fun v H13 hv bt13 w13 => ?_⟩
      obtain ⟨z, rfl, z0, z3⟩ : ∃ z : Nat, v = .int (z : Int) ∧ 0 ≤ z ∧ z ≤ 3 := by
        simp only [List.mem_cons, List.not_mem_nil, or_false] at hv
        rcases hv with rfl | rfl | rfl | rfl
        · exact ⟨0, rfl, by decide, by decide⟩
        · exact ⟨1, rfl, by decide, by decide⟩
        · exact ⟨2, rfl, by decide, by decide⟩
        · exact ⟨3, rfl, by decide, by decide⟩
      have b13 := (b12.same smz).but (w12.same smz) bt13
      have hk13' := bt13 _ _ ((w12.same smz).ne_dk (smz _ _ hk12)) (smz _ _ hk12)
      clear bt13 hv nzs smz hzl b12 w12 hk12
      refine ⟨(z : Int), rfl, by omega, by omega, fun ra hra => lc_range (fun j H' => ∃ row : List Str, But s H13 H' ∧ WellAt H' s (n + 100 + 10 * k + 3 + j) ∧ H' ra = some (.lst (row.map V.str)) ∧ row.length = j ∧ ∀ x ∈ row, x ∈ names) ?_ ?_ ?_⟩
      · exact ⟨[], but_of_same (same_new hra), (w13.same (same_new hra)).mono (by omega), upd_same, rfl, fun x h => by simp at h⟩
      · rintro j H14 hj ⟨row, bt14, w14, h14, hrl, hsub⟩
        have b14 := b13.but w13 bt14
        refine ⟨rfl, tyes (iteT ?_)⟩
        refine ⟨_, rfl, _, rfl, s, nl, names.map V.str, _, rfl, w14, by omega, b14.nm, w14.ne_strs b14.nm, nlen, by rw [List.length_map]; omega, fun v H15 hv bt15 w15 => ?_⟩
        obtain ⟨o, ho, rfl⟩ := List.mem_map.mp hv
        have h15 := bt15 _ _ (w14.ne_strs h14) h14
        refine ⟨_, h15, by rw [List.length_map]; exact sl1 (by omega), row ++ [o], (bt14.trans bt15).cell hra _, (w15.cell w13 hra).mono (by omega), by rw [upd_same, List.map_append]; rfl, by simp [hrl], fun x hx => ?_⟩
        rcases List.mem_append.mp hx with hx | hx
        · exact hsub x hx
        · rw [List.mem_singleton.mp hx]; exact ho
      rintro H14 ⟨row, bt14, w14, h14, hrl, hsub⟩
      have b14 := b13.but w13 bt14
      have hk14 := bt14 _ _ (w13.ne_dk hk13') hk13'
      have hra0 : H ra = none := b13.bt.freeW w13 hra
      have nraru : ra ≠ ru := fun z => by
        obtain ⟨ts', g1, g2⟩ := b13.tr
        rw [z, g1] at hra
        cases hra
      refine ⟨sl2 (by show 3 ≤ 1000000; decide), fun t ht => ?_⟩
      have e15 := same_new ht (o := .tup [.str nk, .str c1, .ref ra])
      have b15 := b14.same e15
      have w15 := w14.same e15
      have hk15 := e15 _ _ hk14
      have h15 := e15 _ _ h14
      have htt : (upd H14 t (.tup [.str nk, .str c1, .ref ra])) t = some (.tup [.str nk, .str c1, .ref ra]) := upd_same
      have ht0 : H t = none := b14.bt.freeW w14 ht
      generalize (upd H14 t (.tup [.str nk, .str c1, .ref ra])) = H15 at b15 w15 hk15 h15 htt ⊢
      clear e15 ht b14 w14 hk14 h14 bt14 b13 w13 hk13'
      have hrow3 : row.length ≤ 3 := by
        have : row.length = z := hrl
        omega
      -- mine
      obtain ⟨ts, hts, htp⟩ := b15.tr
      have htl : ts.length = rs.length := paired_len htp
      refine ⟨_, rfl, ru, rfl, ⟨_, SqL.of hts⟩, fun D hD => lc_list (K := K) (a := ru) (xs := ts.map V.ref) (fun j H' => Same H15 H' ∧ ∃ us : List Addr, H' D = some (.lst (us.map V.ref)) ∧ Paired (TrioAt H15) us ((rs.take j).filter fun r => decide (r.1 = nk))) ?_ ?_ ?_ ?_⟩
      · exact ⟨same_new hD, [], upd_same, .nil⟩
      · rintro j H' _ ⟨sm, _⟩
        exact SqL.of (sm _ _ hts)
      · rintro j x H' hj ⟨sm, us, h1, h2⟩
        obtain ⟨t2, ht2, rfl⟩ := map_at hj
        obtain ⟨r, hr1, _, w2, _, g1, g2⟩ := paired_get htp ht2
        have hjl : j < rs.length := (List.getElem?_eq_some_iff.mp hr1).1
        have hul : us.length ≤ 100 := by
          rw [paired_len h2]
          have := List.length_filter_le (fun r : Rule => decide (r.1 = nk)) (rs.take j)
          rw [List.length_take] at this
          omega
        refine ⟨rfl, _, rfl, _, _, _, _, rfl, rfl, SqT.of (sm _ _ g1), atI_nat (j := 0) rfl, _, rfl, rfl, _, rfl, ?_⟩
        rw [take_snoc hr1, filter_snoc]
        refine iteB (fun hc => ?_) (fun hc => ?_)
        · have e0 : r.1 = nk := V.str.inj (of_decide_eq_true hc)
          rw [if_pos (decide_eq_true e0)]
          refine ⟨_, rfl, _, h1, by rw [List.length_map]; exact sl1 (by omega), same_mut sm hD, us ++ [t2], by rw [upd_same, List.map_append]; rfl, paired_app (F := TrioAt H15) ⟨w2, g1, g2⟩ h2⟩
        · have e0 : ¬ r.1 = nk := fun z => of_decide_eq_false hc (by rw [z])
          rw [if_neg (by rw [decide_eq_false e0]; exact Bool.false_ne_true)]
          exact ⟨sm, us, h1, h2⟩
      rintro H16 ⟨sm16, us, hus, hup⟩
      rw [List.length_map, htl, List.take_length] at hup
      have hmine : (rs.filter fun r => decide (r.1 = nk)).length = (rulesOf rs nk).length := by unfold rulesOf; rw [List.length_map]
      have hulen : us.length = (rulesOf rs nk).length := by rw [paired_len hup, hmine]
      have b16 := b15.same sm16
      have w16 := w15.same sm16
      have hk16 := sm16 _ _ hk15
      have h16 := sm16 _ _ h15
      have htt16 := sm16 _ _ htt
      have hts16 := sm16 _ _ hts
      have hup16 : Paired (TrioAt H16) us (rs.filter fun r => decide (r.1 = nk)) := Paired.mapP hup fun _ _ h => h.same sm16
      have hlet : (rulesOf rs nk).map (·.1) = (rs.filter fun r => decide (r.1 = nk)).map (·.2.1) := by unfold rulesOf; rw [List.map_map]; rfl
      refine ⟨_, rfl, _, _, rfl, .inl (SqL.of hus), _, _, rfl, rfl, _, rfl, iteB (fun h1 => ?_) (fun _ => ?_)⟩
      · have hlt : (rulesOf rs nk).length < 4 := by
          have := of_decide_eq_true h1
          rw [List.length_map, hulen] at this
          omega
        refine ⟨_, rfl, _, rfl, eTrio (nk, c1, row), (rs.filter fun r => decide (r.1 = nk)).map eTrio, dp_trio ⟨ra, htt16, h16⟩, .inl (dp_trios ⟨us, hus, hup16⟩), Nat.le_trans (dep_Trio _) (by decide), _, rfl, ?_⟩
        rw [any_enc enc_Trio]
        refine iteB (fun h2 => ?_) (fun _ => ?_)
        · have hnr : (nk, c1, row) ∉ rs := fun z => by
            have h3 : (nk, c1, row) ∉ rs.filter fun r => decide (r.1 = nk) := by simpa using h2
            exact h3 (List.mem_filter.mpr ⟨z, decide_eq_true rfl⟩)
          -- the rule is put behind
          have put : ∀ H' : Hp, Same H16 H' → (plain = true → c1 ∉ (rulesOf rs nk).map (·.1)) →
              BuiltB H (upd H' ru (.lst (ts.map V.ref ++ [.ref t]))) s nl sg ru names signs (rs ++ [(nk, c1, row)]) ∧ WellAt (upd H' ru (.lst (ts.map V.ref ++ [.ref t]))) s (n + 100 + 10 * (k + 1)) ∧ (upd H' ru (.lst (ts.map V.ref ++ [.ref t]))) kn = some (.dK kvs) ∧ (kvs.length ≤ 6 ∧ ∀ x ∈ names, KwOk kvs (rs ++ [(nk, c1, row)]) B x) ∧ (rs ++ [(nk, c1, row)]).Nodup ∧ (∀ n, (rulesOf (rs ++ [(nk, c1, row)]) n).length ≤ 4) ∧ (rs ++ [(nk, c1, row)]).length ≤ 6 + (k + 1) ∧ (∀ r ∈ rs ++ [(nk, c1, row)], r.1 ∈ names ∧ r.2.1 ∈ signs ∧ r.2.2.length ≤ 3 ∧ ∀ x ∈ r.2.2, x ∈ names) ∧ EndsR names (rs ++ [(nk, c1, row)]) ∧ (plain = true → PlainR (rs ++ [(nk, c1, row)])) := fun H' sm hp => by
            refine ⟨(b16.same sm).put hru nne sne (sm _ _ hts16) (r := (nk, c1, row)) nraru ⟨ht0, ra, hra0, sm _ _ htt16, sm _ _ h16⟩ (sm _ _ htt16), ((w16.same sm).cell hw hru).mono (by omega), by rw [upd_ne nkr]; exact sm _ _ hk16, ⟨hkw.1, fun x hx => (hkw.2 x hx).more fun r hr => List.mem_append_left _ hr⟩, ?_, fun x => ?_, by rw [List.length_append]; exact Nat.succ_le_succ hl, fun r hr1 => ?_, hends.more _, fun hpp => (hpl hpp).put (hp hpp)⟩
            · rw [List.nodup_append]
              exact ⟨hrn, by simp, fun x hx y hy e => hnr (by rw [← List.mem_singleton.mp hy, ← e]; exact hx)⟩
            · rw [rulesOf_snoc]
              by_cases c : nk = x
              · rw [if_pos c, List.length_append, ← c]
                exact Nat.succ_le_of_lt hlt
              · rw [if_neg c]
                exact hfew x
            · rcases List.mem_append.mp hr1 with hr1 | hr1
              · exact hok r hr1
              · rw [List.mem_singleton.mp hr1]
                exact ⟨hnkm, hc1, hrow3, hsub⟩
          have hll : (ts.map V.ref).length < sizeLine := by rw [List.length_map]; exact sl1 (by omega)
          refine ⟨_, rfl, _, rfl, ?_⟩
          cases hpp : plain with
          | false =>
            rw [hpp] at put
            refine iteF (iteT ?_)
            obtain ⟨c1', c2', c3', c10', c4', c5', c6', c7', c8', c9'⟩ := put H16 (Same.refl _) (fun z => by cases z)
            exact ⟨_, rfl, .inl ⟨rfl, _, SqL.of hts16⟩, _, rfl, ru, _, _, rfl, rfl, hts16, hll, _, _, _, _, _, _, _, _, _, kvs, rfl, c1', c2', c3', c10', c4', c5', c6', c7', c8', c9'⟩
          | true =>
            rw [hpp] at put hpl
            refine iteT ?_
            refine ⟨_, rfl, _, rfl, D, rfl, ⟨_, SqL.of hus⟩, fun D2 hD2 => lc_scal (K := K) (ys := ((rs.filter fun r => decide (r.1 = nk)).map (·.2.1)).map V.str) (SqL.of hus) hD2 (by rw [List.length_map, List.length_map, List.length_map, paired_len hup]) (by rw [List.length_map]; omega) (fun _ => rfl) (fun i x y H' Q' g1 g2 sm k => ?_) (fun H17 sm17 hl17 => ?_)⟩
            · obtain ⟨t2, ht2, rfl⟩ := map_at g1
              obtain ⟨r, hr1, w2, g3, g4⟩ := paired_get hup16 ht2
              have hx2 : ((rs.filter fun r => decide (r.1 = nk)).map (·.2.1))[i]? = some r.2.1 := by rw [List.getElem?_map, hr1]; rfl
              have ey := map_get hx2 g2
              subst ey
              exact ⟨_, rfl, _, _, _, _, rfl, rfl, SqT.of (sm _ _ g3), atI_nat (j := 1) rfl, k _ fun _ _ h => h⟩
            refine ⟨PyData.str c1, ((rs.filter fun r => decide (r.1 = nk)).map (·.2.1)).map PyData.str, .str c1, .inl (.lst (SqL.of hl17) (dpAll_strs _)), Nat.zero_le _, _, rfl, ?_⟩
            rw [any_enc enc_str, ← hlet]
            by_cases hin : c1 ∈ (rulesOf rs nk).map (·.1)
            · rw [decide_eq_true hin]
              refine iteF ?_
              exact ⟨_, _, _, _, _, _, _, _, rs, kvs, rfl, b16.same sm17, (w16.same sm17).mono (by omega), sm17 _ _ hk16, hkw, hrn, hfew, by omega, hok, hends, hpl⟩
            · rw [decide_eq_false hin]
              refine iteT ?_
              obtain ⟨c1', c2', c3', c10', c4', c5', c6', c7', c8', c9'⟩ := put H17 sm17 (fun _ => hin)
              exact ⟨_, rfl, .inl ⟨rfl, _, SqL.of (sm17 _ _ hts16)⟩, _, rfl, ru, _, _, rfl, rfl, sm17 _ _ hts16, hll, _, _, _, _, _, _, _, _, _, kvs, rfl, c1', c2', c3', c10', c4', c5', c6', c7', c8', c9'⟩
        · exact ⟨_, _, _, _, _, _, _, _, rs, kvs, rfl, b16, w16.mono (by omega), hk16, hkw, hrn, hfew, by omega, hok, hends, hpl⟩
      · exact ⟨_, _, _, _, _, _, _, _, rs, kvs, rfl, b16, w16.mono (by omega), hk16, hkw, hrn, hfew, by omega, hok, hends, hpl⟩
    · clear b w7 hk7 hkw hok hends hpl hrn hl0 hfew bt8 w8 b8 hk8 rs kvs
      rintro σ' H9 ⟨x7, x8, x9, x10, x11, x12, x13, x14, rs, kvs, rfl, b, w9, hk9, hkw, hrn, hfew, hl, hok, hends, hpl⟩
      refine ⟨_, rfl, _, rfl, sl2 (by show 2 ≤ 1000000; decide), fun p hp => ?_⟩
      have e := same_new hp (o := .tup [.ref ru, .ref kn])
      have b10 := b.same e
      exact q p ru kn _ rs kvs b10.bt ((w9.same e).mono (by omega)) (b.bt.freeW w9 hp) hru hkn0 upd_same b10.tr (e _ _ hk9) hkw.1 hkw.2 ⟨hrn, okL sok hok, hfew⟩ (by omega)
end
end SG
namespace SG
open PySem PySem.Spec PyProof.Rows L2 LamX
section
variable {P : Program} {w : World} {K : PySem.W.Frag} {mg : Str → Option Value} {base : Heap} {A : Ad}
theorem rulesOf_take_snoc {rs : List Rule} {j : Nat} {r : Rule} (h : rs[j]? = some r) (n : Str) : rulesOf (rs.take (j + 1)) n = if r.1 = n then rulesOf (rs.take j) n ++ [r.2] else rulesOf (rs.take j) n := by
  rw [take_snoc h, rulesOf_snoc]
theorem ok__law_kin (T : Txt K mg A) : FnOk P w K mg base CX0 3 A.a__law_kin A.d__law_kin ["_law_well_here", "_law_rules_here", "_law_known", "_law_names_here", "_law_name"] sp_kin := by
  have G__law_draw : FnOk P w K mg base CX0 1 A.a__law_draw A.d__law_draw ["_law_well_here", "_law_many"] sp_draw := ok__law_draw T
  have G__law_one : FnOk P w K mg base CX0 2 A.a__law_one A.d__law_one ["_law_well_here", "_law_some"] sp_one := ok__law_one T
  refine T.F__law_kin.ok sc__law_kin (fun vs H Q E h => ?_) (fun cdv A0 outer s0 H vs Q E hr h => ?_)
  · obtain ⟨_, _, _, _, _, _, _, _, _, _, rfl, _⟩ := h
    rfl
  · obtain ⟨s, ru, kn, nl, nk, names, rs, kvs, B, n, rfl, w0, hn, htr, hrl, hnl, nne, hn6, hkn, hkl, hkw, hg, q⟩ := h
    have hu := hu_of hr
    refine ⟨_, (pss_cons (ps_set (i := 5) sc__law_kin.nd rfl (Or.inr rfl) (pe_call G__law_one (hr.mono (by decide)) (by rfl) T.g__law_one T.F__law_one.kp T.b__law_one .nil pass0 (pa_cons (pv 0) (pa_cons (pv 3) pa_nil))))
 (pss_cons (ps_set (i := 6) sc__law_kin.nd rfl (Or.inr rfl) (pe_slice (r := rSlL K) sl_list (pe_lst (pa_cons (pe_call G__law_one (hr.mono (by decide)) (by rfl) T.g__law_one T.F__law_one.kp T.b__law_one .nil pass0 (pa_cons (pv 0) (pa_cons (pv 3) pa_nil))) pa_nil)) po_none (po_some (pe_call G__law_draw (hr.mono (by decide)) (by rfl) T.g__law_draw T.F__law_draw.kp T.b__law_draw .nil pass0 (pa_cons (pv 0) (pa_cons pe_int pa_nil))))))
 (pss_cons (ps_setLc (i := 7) (own := [("_law_other", 8), ("_law_letter", 9), ("_law_row_here", 10)]) (g := gTup K 3 (gCons (gName 8) (gCons (gName 9) (gCons (gName 10) gNil)))) (by rfl) sc__law_kin.nd rfl rfl (sw_true rfl rfl rfl (by decide +kernel)) (pi_list (pv 1)) (blkOk_by (own := [("_law_other", 8), ("_law_letter", 9), ("_law_row_here", 10)]) (N := ["_law_well_here", "_law_rules_here", "_law_known", "_law_names_here", "_law_name", "_law_one_here", "_law_behind", "_law_mine", "_law_other", "_law_letter", "_law_row_here"]) (sc := defScope s__law_kin) (by decide +kernel)) (fun _ _ _ _ _ => (pg_tup (by rfl) (pgs_cons (pg_name (i := 8) sc__law_kin.nd rfl (Or.inl rfl)) (pgs_cons (pg_name (i := 9) sc__law_kin.nd rfl (Or.inl rfl)) (pgs_cons (pg_name (i := 10) sc__law_kin.nd rfl (Or.inl rfl)) pgs_nil))))) (fun _ _ _ _ _ => pts_one (pt_cmpR op_eq (pv 8) (pv 5) (nomark _))) (fun _ _ _ _ _ => (pe_tup (pa_cons (pv 9) (pa_cons (pv 10) pa_nil)))))
 (Evl.pss_cut (ps_if (pt_cmpR op_gt (pe_op op_add (pe_callB (id := "max") (r := rMax K) (cr_max rfl) (by rfl) T.max (by decide +kernel) (pa_cons (pe_lc (own := [("_law_letter", 9), ("_law_row_here", 10)]) (g := gTup K 2 (gCons (gName 9) (gCons (gName 10) gNil))) (by rfl) sc__law_kin.nd (pi_list (pv 7)) (blkOk_by (own := [("_law_letter", 9), ("_law_row_here", 10)]) (N := ["_law_well_here", "_law_rules_here", "_law_known", "_law_names_here", "_law_name", "_law_one_here", "_law_behind", "_law_mine", "_law_other", "_law_letter", "_law_row_here"]) (sc := defScope s__law_kin) (by decide +kernel)) (fun _ _ _ _ _ => (pg_tup (by rfl) (pgs_cons (pg_name (i := 9) sc__law_kin.nd rfl (Or.inl rfl)) (pgs_cons (pg_name (i := 10) sc__law_kin.nd rfl (Or.inl rfl)) pgs_nil)))) (fun _ _ _ _ _ => pts_nil) (fun _ _ _ _ _ => (pe_callB (id := "len") (r := Evl.rLenS K) call_len_seq (by rfl) T.len (by decide +kernel) (pa_cons (pv 10) pa_nil)))) pa_nil)) (pe_callB (id := "len") (r := Evl.rLenS K) call_len_seq (by rfl) T.len (by decide +kernel) (pa_cons (pv 6) pa_nil))) pe_int (nomark _)) (pss_one (ps_set (i := 6) sc__law_kin.nd rfl (Or.inr rfl) (pe_lst pa_nil))) pss_nil)
 (pss_cons (ps_dput hu (pv 2) (pv 4) (pe_op op_add (pe_dget hu (pv 2) (pv 5) (fun _ _ => rfl)) (pe_callB (id := "sum") (r := rSum K) (cr_sum rfl) (by rfl) T.sum (by decide +kernel) (pa_cons (pe_lc (own := [("_law_other", 8)]) (g := gName 8) (by rfl) sc__law_kin.nd (pi_list (pv 6)) (blkOk_by (own := [("_law_other", 8)]) (N := ["_law_well_here", "_law_rules_here", "_law_known", "_law_names_here", "_law_name", "_law_one_here", "_law_behind", "_law_mine", "_law_other", "_law_letter", "_law_row_here"]) (sc := defScope s__law_kin) (by decide +kernel)) (fun _ _ _ _ _ => (pg_name (i := 8) sc__law_kin.nd rfl (Or.inl rfl))) (fun _ _ _ _ _ => pts_nil) (fun _ _ _ _ _ => (pe_dget hu (pv 2) (pv 8) (fun _ _ => rfl)))) pa_nil))) rfl)
 (pss_one (ps_ret (pe_lc (own := [("_law_letter", 9), ("_law_row_here", 10)]) (g := gTup K 2 (gCons (gName 9) (gCons (gName 10) gNil))) (by rfl) sc__law_kin.nd (pi_list (pv 7)) (blkOk_by (own := [("_law_letter", 9), ("_law_row_here", 10)]) (N := ["_law_well_here", "_law_rules_here", "_law_known", "_law_names_here", "_law_name", "_law_one_here", "_law_behind", "_law_mine", "_law_other", "_law_letter", "_law_row_here"]) (sc := defScope s__law_kin) (by decide +kernel)) (fun _ _ _ _ _ => (pg_tup (by rfl) (pgs_cons (pg_name (i := 9) sc__law_kin.nd rfl (Or.inl rfl)) (pgs_cons (pg_name (i := 10) sc__law_kin.nd rfl (Or.inl rfl)) pgs_nil)))) (fun _ _ _ _ _ => pts_nil) (fun _ _ _ _ _ => (pe_tup (pa_cons (pv 4) (pa_cons (pv 9) (pa_cons (pe_op op_cat (pv 10) (pv 6)) pa_nil))))))))))))), ?_⟩
    have npos : 0 < (names.map V.str).length := by rw [List.length_map]; exact List.length_pos_iff.mpr nne
    -- one
    refine ⟨_, rfl, _, rfl, s, nl, names.map V.str, _, rfl, w0, by omega, hnl, w0.ne_strs hnl, npos, by rw [List.length_map]; omega, fun v H1 hv bt1 w1 => ?_⟩
    obtain ⟨one, ho, rfl⟩ := List.mem_map.mp hv
    have hnl1 := bt1 _ _ (w0.ne_strs hnl) hnl
    -- behind
    refine ⟨_, rfl, _, rfl, s, nl, names.map V.str, _, rfl, w1, by omega, hnl1, w1.ne_strs hnl1, npos, by rw [List.length_map]; omega, fun v H2 hv bt2 w2 => ?_⟩
    obtain ⟨x, hx, rfl⟩ := List.mem_map.mp hv
    refine ⟨sl2 (by show 1 ≤ 1000000; decide), fun p1 hp1 => ?_⟩
    have sm1 := same_new hp1 (o := .lst [V.str x])
    have hp1a : (upd H2 p1 (.lst [V.str x])) p1 = some (.lst ([x].map V.str)) := upd_same
    have w3 := w2.same sm1
    have bt03 := (bt1.trans bt2).same sm1
    generalize (upd H2 p1 (.lst [V.str x])) = H3 at sm1 hp1a w3 bt03 ⊢
    refine ⟨_, rfl, s, _, _, rfl, w3, by omega, by decide, by decide, fun j H4 j0 j1 bt4 w4 => ?_⟩
    have hp4 := bt4 _ _ (w3.ne_strs hp1a) hp1a
    refine ⟨_, rfl, p1, _, rfl, SqL.of hp4, fun c hc => ?_⟩
    obtain ⟨behind, hb, hbl, hbx⟩ := cut_one (x := x) j0 j1
    have hbn : ∀ y ∈ behind, y ∈ names := fun y hy => by rw [hbx y hy]; exact hx
    have smc := same_new hc (o := .lst (cutV ([x].map V.str) none (some j)))
    have hc5 : (upd H4 c (.lst (cutV ([x].map V.str) none (some j)))) c = some (.lst (behind.map V.str)) := by rw [upd_same]; exact congrArg (fun q => some (HO.lst q)) hb
    have w5 := w4.same smc
    have bt05 := (bt03.trans bt4).same smc
    generalize (upd H4 c (.lst (cutV ([x].map V.str) none (some j)))) = H5 at smc hc5 w5 bt05 ⊢
    clear hb hp4 bt4 w4 hp1a bt03 w3 hp1 sm1 hv bt2 w2 hnl1 bt1 w1
    have hkn5 := bt05 _ _ (w0.ne_dk hkn) hkn
    obtain ⟨ts, hts, htp⟩ := htr
    have hts5 := bt05 _ _ (w0.ne_refs hts) hts
    have htp5 : Paired (TrioAt H5) ts rs := Paired.mapP htp fun _ _ ⟨w1, g1, g2⟩ => ⟨w1, bt05 _ _ (w0.ne_tup g1) g1, bt05 _ _ (w0.ne_strs g2) g2⟩
    have htl := paired_len htp
    -- mine
    refine ⟨_, rfl, ru, rfl, ⟨_, SqL.of hts5⟩, fun D hD => lc_list (K := K) (a := ru) (xs := ts.map V.ref) (fun j H' => Same H5 H' ∧ ∃ us : List Addr, H' D = some (.lst (us.map V.ref)) ∧ Paired (fun t (q : Str × List Str) => ∃ w, H' t = some (.tup [.str q.1, .ref w]) ∧ H5 w = some (.lst (q.2.map V.str))) us (rulesOf (rs.take j) one)) ?_ ?_ ?_ ?_⟩
    · exact ⟨same_new hD, [], upd_same, .nil⟩
    · rintro j H' _ ⟨sm, _⟩
      exact SqL.of (sm _ _ hts5)
    · rintro j y H' hj ⟨sm, us, h1, h2⟩
      obtain ⟨t2, ht2, rfl⟩ := map_at hj
      obtain ⟨r, hr1, w2, g1, g2⟩ := paired_get htp5 ht2
      refine ⟨t2, _, rfl, SqT.of (sm _ _ g1), rfl, _, _, rfl, _, _, rfl, _, _, rfl, rfl, rfl, ?_⟩
      refine ⟨_, rfl, _, rfl, rfl, _, rfl, ?_⟩
      rw [rulesOf_take_snoc hr1]
      have hul : us.length ≤ 100 := by
        rw [paired_len h2]
        have := rulesOf_le (rs.take j) one
        rw [List.length_take] at this
        omega
      refine iteB (fun hc2 => ?_) (fun hc2 => ?_)
      · have e0 : r.1 = one := V.str.inj (of_decide_eq_true hc2)
        rw [if_pos e0]
        refine ⟨_, rfl, _, rfl, sl2 (by show 2 ≤ 1000000; decide), fun t ht => ?_⟩
        have smt := same_new ht (o := .tup [.str r.2.1, .ref w2])
        have nDt : D ≠ t := fun z => by rw [z, ht] at h1; cases h1
        refine ⟨_, smt _ _ h1, by rw [List.length_map]; exact sl1 (by omega), same_mut (sm.trans smt) hD, us ++ [t], by rw [upd_same, List.map_append]; rfl, paired_app ⟨w2, by rw [upd_ne nDt.symm]; exact upd_same, g2⟩ (Paired.mapP h2 fun a b ⟨w1, k1, k2⟩ => ⟨w1, ?_, k2⟩)⟩
        rw [upd_ne (fun z => by rw [z, h1] at k1; cases k1)]
        exact smt _ _ k1
      · rw [if_neg fun z => of_decide_eq_false hc2 (by rw [z])]
        exact ⟨sm, us, h1, h2⟩
    rintro H6 ⟨sm6, us, hus, hup⟩
    rw [List.length_map, htl, List.take_length] at hup
    have hup : Paired (fun t (q : Str × List Str) => ∃ w, H6 t = some (.tup [.str q.1, .ref w]) ∧ H6 w = some (.lst (q.2.map V.str))) us (rulesOf rs one) := Paired.mapP hup fun _ _ ⟨w1, k1, k2⟩ => ⟨w1, k1, sm6 _ _ k2⟩
    have bt06 := bt05.same sm6
    have w6 := w5.same sm6
    have hc6 := sm6 _ _ hc5
    have hkn6 := sm6 _ _ hkn5
    have hul := paired_len hup
    have hul4 : (rulesOf rs one).length ≤ 4 := hg.few one
    have hone : rulesOf rs one ≠ [] := (hkw one ho).rule
    clear hts5 htp5 sm6 hkn5 hc5 w5 bt05 smc hD
    -- the longest
    refine ⟨fun σ' H' => ∃ (c2 : Addr) (behind : List Str), σ' = [some (.ref s), some (.ref ru), some (.ref kn), some (.ref nl), some (.str nk), some (.str one), some (.ref c2), some (.ref D), none, none, none] ∧ Same H6 H' ∧ H' c2 = some (.lst (behind.map V.str)) ∧ behind.length ≤ 1 ∧ (∀ y ∈ behind, y ∈ names) ∧ ∀ q ∈ rulesOf rs one, q.2.length + behind.length ≤ 3, ?_, ?_⟩
    · refine ⟨_, rfl, D, rfl, ⟨_, SqL.of hus⟩, fun D2 hD2 => lc_list (K := K) (a := D) (xs := us.map V.ref) (fun j H' => Same H6 H' ∧ H' D2 = some (.lst ((((rulesOf rs one).map fun q => (q.2.length : Int)).take j).map V.int))) ?_ ?_ ?_ ?_⟩
      · exact ⟨same_new hD2, upd_same⟩
      · rintro j H' _ ⟨sm, _⟩
        exact SqL.of (sm _ _ hus)
      · rintro j y H' hj ⟨sm, h4⟩
        obtain ⟨t2, ht2, rfl⟩ := map_at hj
        obtain ⟨q1, hq1, w2, k1, k2⟩ := paired_get hup ht2
        have hx2 : ((rulesOf rs one).map fun q => (q.2.length : Int))[j]? = some (q1.2.length : Int) := by rw [List.getElem?_map, hq1]; rfl
        refine ⟨t2, _, rfl, SqT.of (sm _ _ k1), rfl, _, _, rfl, _, _, rfl, rfl, rfl, tyes (iteT ?_)⟩
        refine ⟨_, rfl, _, _, rfl, .inl (SqL.of (sm _ _ k2)), _, h4, by rw [List.length_map, List.length_take, List.length_map]; exact sl1 (by omega), same_mut sm hD2, ?_⟩
        rw [upd_same, take_snoc hx2, List.map_append, List.length_map]; rfl
      rintro H7 ⟨sm7, h7⟩
      rw [List.length_map, hul, show (rulesOf rs one).length = ((rulesOf rs one).map fun q => (q.2.length : Int)).length from (List.length_map _).symm, List.take_length] at h7
      have hc7 := sm7 _ _ hc6
      refine ⟨D2, _, rfl, SqL.of h7, by rw [List.length_map]; exact List.length_pos_iff.mpr hone, fun m hm hmx => ?_⟩
      refine ⟨_, rfl, _, _, rfl, .inl (SqL.of hc7), _, _, rfl, rfl, _, _, rfl, rfl, _, rfl, ?_⟩
      rw [List.length_map]
      refine iteB (fun h3 => ?_) (fun h3 => ?_)
      · refine ⟨Nat.zero_le _, fun e he => ?_⟩
        have sme := same_new he (o := .lst [])
        exact ⟨e, [], rfl, sm7.trans sme, upd_same, by decide, fun y hy => (nomatch hy), fun q1 hq1 => by
          have := (hg.ok (one, q1.1, q1.2) (mem_rulesOf.mp hq1)).2.2.1
          exact this⟩
      · exact ⟨c, behind, rfl, sm7, hc7, hbl, hbn, fun q1 hq1 => by
          have h4 := of_decide_eq_false h3
          have h5 := hmx (q1.2.length : Int) (List.mem_map.mpr ⟨q1, hq1, rfl⟩)
          omega⟩
    clear hbn hbl hbx hc6 behind hc
    rintro σ' H7 ⟨c2, behind, rfl, sm7, hc7, hbl, hbn, hb3⟩
    have hkn7 := sm7 _ _ hkn6
    have hus7 := sm7 _ _ hus
    have bt07 := bt06.same sm7
    have w7 := w6.same sm7
    -- known
    have hvo : valV kvs (Sum.inr one : Key) = some (.int (intOf kvs one)) := intOf_eq (hkw one ho).val
    refine ⟨_, rfl, _, rfl, kn, _, rfl, .inl ⟨kvs, Sum.inr one, .inl hkn7, rfl, hvo.symm⟩, ?_⟩
    refine ⟨_, rfl, c2, rfl, ⟨_, SqL.of hc7⟩, fun D3 hD3 => lc_scal (K := K) (ys := (behind.map (intOf kvs)).map V.int) (SqL.of hc7) hD3 (by simp) (by rw [List.length_map]; omega) (fun _ => rfl) (fun i y z H' Q' g1 g2 sm k => ?_) (fun H8 sm8 h8 => ?_)⟩
    · obtain ⟨x1, hx1, rfl⟩ := map_at g1
      have hx2 : (behind.map (intOf kvs))[i]? = some (intOf kvs x1) := by rw [List.getElem?_map, hx1]; rfl
      have ey := map_get hx2 g2
      subst ey
      exact ⟨_, rfl, _, rfl, kn, _, rfl, .inl ⟨kvs, Sum.inr x1, .inl (sm _ _ hkn7), rfl, (intOf_eq (hkw x1 (hbn x1 (List.mem_of_getElem? hx1))).val).symm⟩, k _ fun _ _ h => h⟩
    have hkn8 := sm8 _ _ hkn7
    have hus8 := sm8 _ _ hus7
    have hc8 := sm8 _ _ hc7
    have bt08 := bt07.same sm8
    have w8 := w7.same sm8
    refine ⟨D3, _, rfl, SqL.of h8, _, _, rfl, rfl, _, rfl, _, rfl, kn, _, rfl, DPut.k (k := Sum.inr nk) hkn8 (sl1 (by omega)), ?_⟩
    generalize hkv : putK kvs (Sum.inr nk : Key) (V.int (intOf kvs one + (behind.map (intOf kvs)).sum)) = kvs2
    have nd : ∀ {a : Addr} {xs : List V}, H8 a = some (.lst xs) → a ≠ kn := fun h z => by rw [z, hkn8] at h; cases h
    have ndt : ∀ {a : Addr} {xs : List V}, H8 a = some (.tup xs) → a ≠ kn := fun h z => by rw [z, hkn8] at h; cases h
    have hkn9 : (upd H8 kn (.dK kvs2)) kn = some (.dK kvs2) := upd_same
    have hus9 : (upd H8 kn (.dK kvs2)) D = some (.lst (us.map V.ref)) := by rw [upd_ne (nd hus8)]; exact hus8
    have hc9 : (upd H8 kn (.dK kvs2)) c2 = some (.lst (behind.map V.str)) := by rw [upd_ne (nd hc8)]; exact hc8
    have hup9 : Paired (fun t (q : Str × List Str) => ∃ w, (upd H8 kn (.dK kvs2)) t = some (.tup [.str q.1, .ref w]) ∧ (upd H8 kn (.dK kvs2)) w = some (.lst (q.2.map V.str))) us (rulesOf rs one) := Paired.mapP hup fun _ _ ⟨w1, k1, k2⟩ => by
      have k1 := sm8 _ _ (sm7 _ _ k1)
      have k2 := sm8 _ _ (sm7 _ _ k2)
      exact ⟨w1, by rw [upd_ne (ndt k1)]; exact k1, by rw [upd_ne (nd k2)]; exact k2⟩
    have w9 : WellAt (upd H8 kn (.dK kvs2)) s (n + 10) := by
      obtain ⟨a, b, c, h1, h2, h3, h4⟩ := w8
      refine ⟨a, b, c, by rw [upd_ne (nd h1)]; exact h1, h2, h3, ?_⟩
      omega
    have kp9 : ∀ b o, H b = some o → b ≠ s → b ≠ kn → (upd H8 kn (.dK kvs2)) b = some o := fun b o h n1 n2 => by rw [upd_ne n2]; exact bt08 _ _ n1 h
    have fr9 : ∀ p, (upd H8 kn (.dK kvs2)) p = none → H p = none := fun p hp => by
      have nk' : p ≠ kn := fun z => by rw [z, hkn9] at hp; cases hp
      rw [upd_ne nk'] at hp
      exact bt08.freeW w8 hp
    generalize (upd H8 kn (.dK kvs2)) = H9 at hkn9 hus9 hc9 hup9 w9 kp9 fr9 ⊢
    clear hkn8 hus8 hc8 bt08 w8 h8 sm8 hD3 bt07 w7 hkn7 hus7 hc7 sm7 nd ndt
    -- the new rules
    refine ⟨_, rfl, D, rfl, ⟨_, SqL.of hus9⟩, fun D4 hD4 => lc_list (K := K) (a := D) (xs := us.map V.ref) (fun j H' => Same H9 H' ∧ ∃ vs : List Addr, H' D4 = some (.lst (vs.map V.ref)) ∧ Paired (fun t r => ∃ w, w ≠ D4 ∧ H' t = some (.tup [.str r.1, .str r.2.1, .ref w]) ∧ H' w = some (.lst (r.2.2.map V.str))) vs (((rulesOf rs one).take j).map fun q => ((nk, q.1, q.2 ++ behind) : Rule))) ?_ ?_ ?_ ?_⟩
    · exact ⟨same_new hD4, [], upd_same, .nil⟩
    · rintro j H' _ ⟨sm, _⟩
      exact SqL.of (sm _ _ hus9)
    · rintro j y H' hj ⟨sm, vs, h1, h2⟩
      obtain ⟨t2, ht2, rfl⟩ := map_at hj
      obtain ⟨q1, hq1, w2, g1, g2⟩ := paired_get hup9 ht2
      have hvl : vs.length ≤ 100 := by
        rw [paired_len h2, List.length_map, List.length_take]
        omega
      have hq3 := hb3 q1 (List.mem_of_getElem? hq1)
      refine ⟨t2, _, rfl, SqT.of (sm _ _ g1), rfl, _, _, rfl, _, _, rfl, rfl, rfl, tyes (iteT ?_)⟩
      refine ⟨_, rfl, _, rfl, _, rfl, _, rfl, w2, c2, _, _, rfl, rfl, sm _ _ g2, sm _ _ hc9, by rw [List.length_map, List.length_map]; exact sl2 (by omega), fun e he => ?_⟩
      have sme := same_new he (o := .lst (q1.2.map V.str ++ behind.map V.str))
      have hee : (upd H' e (.lst (q1.2.map V.str ++ behind.map V.str))) e = some (.lst ((q1.2 ++ behind).map V.str)) := by rw [upd_same, List.map_append]
      have h1e := sme _ _ h1
      have sme2 := sm.trans sme
      have nD4e : D4 ≠ e := fun z => by rw [z, he] at h1; cases h1
      have h2e : Paired (fun t r => ∃ w, w ≠ D4 ∧ (upd H' e (.lst (q1.2.map V.str ++ behind.map V.str))) t = some (.tup [.str r.1, .str r.2.1, .ref w]) ∧ (upd H' e (.lst (q1.2.map V.str ++ behind.map V.str))) w = some (.lst (r.2.2.map V.str))) vs (((rulesOf rs one).take j).map fun q => ((nk, q.1, q.2 ++ behind) : Rule)) := Paired.mapP h2 fun _ _ ⟨w1, n1, k1, k2⟩ => ⟨w1, n1, sme _ _ k1, sme _ _ k2⟩
      generalize (upd H' e (.lst (q1.2.map V.str ++ behind.map V.str))) = H10 at sme hee h1e sme2 h2e ⊢
      refine ⟨sl2 (by show 3 ≤ 1000000; decide), fun t ht => ?_⟩
      have smt := same_new ht (o := .tup [.str nk, .str q1.1, .ref e])
      have htt : (upd H10 t (.tup [.str nk, .str q1.1, .ref e])) t = some (.tup [.str nk, .str q1.1, .ref e]) := upd_same
      have h1t := smt _ _ h1e
      have het := smt _ _ hee
      have h2t : Paired (fun t' r => ∃ w, w ≠ D4 ∧ (upd H10 t (.tup [.str nk, .str q1.1, .ref e])) t' = some (.tup [.str r.1, .str r.2.1, .ref w]) ∧ (upd H10 t (.tup [.str nk, .str q1.1, .ref e])) w = some (.lst (r.2.2.map V.str))) vs (((rulesOf rs one).take j).map fun q => ((nk, q.1, q.2 ++ behind) : Rule)) := Paired.mapP h2e fun _ _ ⟨w1, n1, k1, k2⟩ => ⟨w1, n1, smt _ _ k1, smt _ _ k2⟩
      have smT := sme2.trans smt
      generalize (upd H10 t (.tup [.str nk, .str q1.1, .ref e])) = H11 at htt h1t het h2t smT ⊢
      refine ⟨_, h1t, by rw [List.length_map]; exact sl1 (by omega), same_mut smT hD4, vs ++ [t], by rw [upd_same, List.map_append]; rfl, ?_⟩
      rw [take_snoc hq1, List.map_append]
      have nt : ∀ {a : Addr} {xs : List V}, H11 a = some (.tup xs) → a ≠ D4 := fun h z => by rw [z, h1t] at h; cases h
      refine paired_app ⟨e, nD4e.symm, by rw [upd_ne (nt htt)]; exact htt, by rw [upd_ne nD4e.symm]; exact het⟩ (Paired.mapP h2t fun _ _ ⟨w1, n1, k1, k2⟩ => ⟨w1, n1, by rw [upd_ne (nt k1)]; exact k1, by rw [upd_ne n1]; exact k2⟩)
    rintro H10 ⟨sm10, vs, hvs, hvp⟩
    rw [List.length_map, hul, List.take_length] at hvp
    exact (q D4 H10 one behind (fr9 _ hD4) (fun b o h n1 n2 => sm10 _ _ (kp9 b o h n1 n2)) (w9.same sm10) (by rw [hkv]; exact sm10 _ _ hkn9) ho hbn hbl hb3 ⟨vs, hvs, Paired.mapP hvp fun _ _ ⟨w1, _, k1, k2⟩ => ⟨w1, k1, k2⟩⟩)
end
section
variable {P : Program} {w : World} {K : PySem.W.Frag} {mg : Str → Option Value} {base : Heap} {A : Ad}
theorem atI_at {xs : List V} {z : Int} {j : Nat} {v : V} (hz : z = (j : Int)) (h : xs[j]? = some v) : atI xs z = some v := by
  rw [hz]
  exact atI_nat h
theorem ok__law_grammar (T : Txt K mg A) : FnOk P w K mg base CX0 6 A.a__law_grammar A.d__law_grammar ["_law_well_here"] (sp_gram A.c_Grammar) := by
  have G__law_draw : FnOk P w K mg base CX0 1 A.a__law_draw A.d__law_draw ["_law_well_here", "_law_many"] sp_draw := ok__law_draw T
  have G__law_names : FnOk P w K mg base CX0 2 A.a__law_names A.d__law_names ["_law_well_here", "_law_many"] sp_namesB := ok__law_names T
  have G__law_signs : FnOk P w K mg base CX0 2 A.a__law_signs A.d__law_signs ["_law_well_here", "_law_many"] sp_signsB := ok__law_signs T
  have G__law_mixed : FnOk P w K mg base CX0 2 A.a__law_mixed A.d__law_mixed ["_law_well_here", "_law_some"] sp_mixed := ok__law_mixed T
  have G__law_rules : FnOk P w K mg base CX0 3 A.a__law_rules A.d__law_rules ["_law_well_here", "_law_names_here", "_law_signs_here", "_law_plain", "_law_most"] sp_rulesK := ok__law_rules T
  have G__law_kin : FnOk P w K mg base CX0 3 A.a__law_kin A.d__law_kin ["_law_well_here", "_law_rules_here", "_law_known", "_law_names_here", "_law_name"] sp_kin := ok__law_kin T
  have G_Grammar___init__ : FnOk P w K mg base CX0 4 A.a_Grammar___init__ A.d_Grammar___init__ ["self", "names", "rules"] (sp_G_init K A.c_Grammar) := ok_Grammar___init__ T
  refine T.F__law_grammar.ok sc__law_grammar (fun vs H Q E h => ?_) (fun cdv A0 outer s0 H vs Q E hr h => ?_)
  · obtain ⟨_, _, rfl, _⟩ := h
    rfl
  · obtain ⟨s, n, rfl, hw3, hn, q⟩ := h
    have hu := hu_of hr
    refine ⟨_, (pss_cons (ps_set (i := 1) sc__law_grammar.nd rfl (Or.inl rfl) (pe_call G__law_names (hr.mono (by decide)) (by rfl) T.g__law_names T.F__law_names.kp T.b__law_names .nil pass0 (pa_cons (pv 0) (pa_cons (pe_op op_add pe_int (pe_call G__law_draw (hr.mono (by decide)) (by rfl) T.g__law_draw T.F__law_draw.kp T.b__law_draw .nil pass0 (pa_cons (pv 0) (pa_cons pe_int pa_nil)))) pa_nil))))
 (pss_cons (ps_set (i := 2) sc__law_grammar.nd rfl (Or.inl rfl) (pe_call G__law_signs (hr.mono (by decide)) (by rfl) T.g__law_signs T.F__law_signs.kp T.b__law_signs .nil pass0 (pa_cons (pv 0) (pa_cons (pe_op op_add pe_int (pe_call G__law_draw (hr.mono (by decide)) (by rfl) T.g__law_draw T.F__law_draw.kp T.b__law_draw .nil pass0 (pa_cons (pv 0) (pa_cons pe_int pa_nil)))) pa_nil))))
 (pss_cons (ps_set (i := 3) sc__law_grammar.nd rfl (Or.inl rfl) (pe_op op_add pe_int (pe_call G__law_draw (hr.mono (by decide)) (by rfl) T.g__law_draw T.F__law_draw.kp T.b__law_draw .nil pass0 (pa_cons (pv 0) (pa_cons (pe_callB (id := "min") (call_min2 rfl) (by rfl) T.min (by decide +kernel) (pa_cons pe_int (pa_cons (pe_op op_sub (pe_callB (id := "len") (r := Evl.rLenS K) call_len_seq (by rfl) T.len (by decide +kernel) (pa_cons (pv 1) pa_nil)) pe_int) pa_nil))) pa_nil)))))
 (pss_cons (ps_asg (pe_call G__law_rules (hr.mono (by decide)) (by rfl) T.g__law_rules T.F__law_rules.kp T.b__law_rules .nil pass0 (pa_cons (pv 0) (pa_cons (pe_slice (r := rSlL K) sl_list (pv 1) po_none (po_some (pe_un un_neg (pv 3)))) (pa_cons (pv 2) (pa_cons pe_bl (pa_cons pe_int pa_nil)))))) (pg_tup (by rfl) (pgs_cons (pg_name (i := 4) sc__law_grammar.nd rfl (Or.inl rfl)) (pgs_cons (pg_name (i := 5) sc__law_grammar.nd rfl (Or.inl rfl)) pgs_nil))))
 (pss_cons (ps_for PassesOwn.never rfl (pi_range3 (by rfl) T.range (pa_cons (pv 3) (pa_cons pe_int (pa_cons (pe_un un_neg pe_int) pa_nil)))) (pg_name (i := 6) sc__law_grammar.nd rfl (Or.inl rfl))
 (pss_one (ps_set (i := 4) sc__law_grammar.nd rfl (Or.inl rfl) (pe_op op_cat (pv 4) (pe_call G__law_kin (hr.mono (by decide)) (by rfl) T.g__law_kin T.F__law_kin.kp T.b__law_kin .nil pass0 (pa_cons (pv 0) (pa_cons (pv 4) (pa_cons (pv 5) (pa_cons (pe_slice (r := rSlL K) sl_list (pv 1) po_none (po_some (pe_un un_neg (pv 6)))) (pa_cons (pe_ix (r := rIxL K) ix_list (pv 1) (pe_op op_sub (pe_callB (id := "len") (r := Evl.rLenS K) call_len_seq (by rfl) T.len (by decide +kernel) (pa_cons (pv 1) pa_nil)) (pv 6)) (fun _ _ => rfl)) pa_nil))))))))))
 (pss_one (ps_ret (pe_tup (pa_cons (pe_make T.mk_Grammar G_Grammar___init__ (hr.mono (by decide)) (by rfl) T.g_Grammar T.b_Grammar___init__ .nil pass0 (pa_cons (pe_call G__law_mixed (hr.mono (by decide)) (by rfl) T.g__law_mixed T.F__law_mixed.kp T.b__law_mixed .nil pass0 (pa_cons (pv 0) (pa_cons (pv 1) pa_nil))) (pa_cons (pe_call G__law_mixed (hr.mono (by decide)) (by rfl) T.g__law_mixed T.F__law_mixed.kp T.b__law_mixed .nil pass0 (pa_cons (pv 0) (pa_cons (pv 4) pa_nil))) pa_nil))) (pa_cons (pv 1) (pa_cons (pv 5) pa_nil))))))))))), ?_⟩
    -- names
    refine ⟨_, rfl, _, rfl, s, _, n, rfl, hw3, by omega, by decide, by decide, fun j H4 j0 j1 bt4 hw4 => ?_⟩
    obtain ⟨jn, rfl⟩ : ∃ cn : Nat, j = (cn : Int) := ⟨j.toNat, (Int.toNat_of_nonneg j0).symm⟩
    refine ⟨_, _, rfl, rfl, s, 2 + jn, _, by dsimp only; exact congrArg (fun q => [V.ref s, V.int q]) (by omega), by omega, hw4, by omega, fun nl H5 names nl0 bt5 hw5 hnl hNB => ?_⟩
    have hnames := hNB.names (by omega) (by omega)
    have hN := hNB.1
    have bt05 := bt4.trans bt5
    -- signs
    refine ⟨_, rfl, _, rfl, s, _, _, rfl, hw5, by omega, by decide, by decide, fun j H6 k0 k1 bt6 hw6 => ?_⟩
    obtain ⟨kn, rfl⟩ : ∃ cn : Nat, j = (cn : Int) := ⟨j.toNat, (Int.toNat_of_nonneg k0).symm⟩
    refine ⟨_, _, rfl, rfl, s, 1 + kn, _, by dsimp only; exact congrArg (fun q => [V.ref s, V.int q]) (by omega), by omega, hw6, by omega, fun sg H7 signs sg0 bt7 hw7 hsg hSB => ?_⟩
    have hsok := hSB.ok
    have bt07 := (bt05.trans bt6).trans bt7
    have hnl7 := bt7 _ _ (hw6.ne_strs (bt6 _ _ (hw5.ne_strs hnl) hnl)) (bt6 _ _ (hw5.ne_strs hnl) hnl)
    have hnnd := areNames_nd hnames
    have hn6 := areNames_l6 hnames
    have hsl : signs.length = 1 + kn := hSB.1
    -- how many of kin
    refine ⟨_, rfl, _, rfl, nl, _, rfl, .inl (SqL.of hnl7), _, _, rfl, rfl, _, _, rfl, ?_⟩
    rw [List.length_map]
    have hmin : (if ((names.length : Nat) : Int) - 1 < 2 then ((names.length : Nat) : Int) - 1 else 2) = ((min 2 (names.length - 1) : Nat) : Int) := by
      by_cases c : ((names.length : Nat) : Int) - 1 < 2
      · rw [if_pos c]
        omega
      · rw [if_neg c]
        omega
    refine ⟨s, _, _, rfl, hw7, by omega, by rw [hmin]; omega, by rw [hmin]; omega, fun j H8 m0 m1 bt8 hw8 => ?_⟩
    rw [hmin] at m1
    obtain ⟨many, hmany⟩ : ∃ cn : Nat, 1 + j = (cn : Int) := ⟨(1 + j).toNat, by omega⟩
    refine ⟨_, _, rfl, rfl, ?_⟩
    dsimp only
    rw [hmany]
    have hm1 : 1 ≤ many := by omega
    have hm2 : many ≤ 2 := by omega
    have hmL : many + 1 ≤ names.length := by omega
    have hnl8 := bt8 _ _ (hw7.ne_strs hnl7) hnl7
    have hsg8 := bt8 _ _ (hw7.ne_strs hsg) hsg
    have bt08 := bt07.trans bt8
    have hw8 := hw8.mono (m := n + 100) (by omega)
    clear bt8 bt07 hnl7 hsg hw7 bt7 bt6 bt5 bt4 hw6 hw5 hw4 hmin m1 m0 hmany hnl
    -- the first rules
    refine ⟨_, rfl, _, rfl, _, rfl, _, rfl, _, rfl, nl, _, rfl, SqL.of hnl8, fun bp hbp => ?_⟩
    have ecut : cutV (names.map V.str) none (some (-(many : Int))) = (names.take (names.length - many)).map V.str := by
      have h1 := cut_negk (names.map V.str) many (by omega) (by rw [List.length_map]; omega)
      rw [List.length_map] at h1
      rw [List.map_take]
      exact h1
    rw [ecut]
    have hbp2 : (upd H8 bp (.lst ((names.take (names.length - many)).map V.str))) bp = some (.lst ((names.take (names.length - many)).map V.str)) := upd_same
    have smbp := same_new hbp (o := .lst ((names.take (names.length - many)).map V.str))
    have hw9 := hw8.same smbp
    have hnl9 := smbp _ _ hnl8
    have hsg9 := smbp _ _ hsg8
    have bt09 := bt08.same smbp
    have hbl : (names.take (names.length - many)).length = names.length - many := by rw [List.length_take]; omega
    generalize (upd H8 bp (.lst ((names.take (names.length - many)).map V.str))) = H9 at hbp2 smbp hw9 hnl9 hsg9 bt09 ⊢
    clear smbp hbp ecut hw8 hnl8 hsg8 bt08
    refine ⟨_, rfl, s, bp, sg, false, 3, names.take (names.length - many), signs, _, rfl, by decide, hw9, by omega, hbp2, hsg9, hnnd.sublist (List.take_sublist _ _), by omega, by omega, fun e => by rw [e] at hsl; simp at hsl; omega, by omega, hsok, fun pr ru0 kn2 H10 rs0 kvs0 bt10 hw10 pr0 ru0' kn0 hpr htr hk10 hkl0 hkw0 hgood0 hrl0 => ?_⟩
    have htr0 : TriosAt H10 ru0 rs0 := by
      obtain ⟨ts, h1, h2⟩ := htr
      exact ⟨ts, h1, Paired.mapP h2 fun _ _ ⟨_, w, _, h3, h4⟩ => ⟨w, h3, h4⟩⟩
    have hnl10 := bt10 _ _ (hw9.ne_strs hnl9) hnl9
    have bt010 := bt09.trans bt10
    have hk0 : H kn2 = none := bt09.freeW hw9 kn0
    have hw10' := hw10.mono (m := n + 1100) (by omega)
    refine ⟨pr, _, rfl, SqT.of hpr, rfl, _, _, rfl, _, _, rfl, rfl, ?_⟩
    clear hpr htr pr0 ru0' kn0 bt10 hw10 hbp2 hsg9 hnl9 bt09 hw9
    -- of kin
    refine ⟨_, rfl, _, rfl, _, _, _, _, rfl, RgC.neg (by omega) (by omega) (by decide) (by decide), ?_⟩
    rw [show ((many : Int) - 0).toNat = many by omega]
    refine for_rangeC (lo := (many : Int)) (c := -1) (n := many) (fun i σ' H' => ∃ (ru : Addr) (rs : List Rule) (kvs : List (Key × V)) (x6 : Option V), σ' = [some (.ref s), some (.ref nl), some (.ref sg), some (.int (many : Int)), some (.ref ru), some (.ref kn2), x6] ∧ (∀ b o, H10 b = some o → b ≠ s → b ≠ kn2 → H' b = some o) ∧ WellAt H' s (n + 1100 + 10 * i) ∧ TriosAt H' ru rs ∧ rs.length ≤ 24 + 4 * i ∧ H' kn2 = some (.dK kvs) ∧ kvs.length ≤ 6 + i ∧ (∀ x ∈ names.take (names.length - many + i), KwOk kvs rs (3 * 2 ^ i) x) ∧ GoodR (names.take (names.length - many + i)) rs) ?_ ?_ ?_
    · exact ⟨ru0, rs0, kvs0, _, rfl, fun _ _ h _ _ => h, hw10', htr0, hrl0, hk10, hkl0, hkw0, hgood0⟩
    · clear htr0 hrl0 hkl0 hkw0 hgood0
      rintro i σ' H11 hi ⟨ru, rs, kvs, x6, rfl, kp, w11, htr, hrl, hkn, hkl, hkw, hg⟩
      have hnlk : nl ≠ kn2 := fun z => by rw [z, hk10] at hnl10; cases hnl10
      have hnl11 := kp _ _ hnl10 (hw10'.ne_strs hnl10) hnlk
      obtain ⟨nk, hnk⟩ : ∃ n1, names[names.length - many + i]? = some n1 := ⟨_, List.getElem?_eq_getElem (by omega)⟩
      have hkk : ((many : Int) + (i : Nat) * -1) = ((many - i : Nat) : Int) := by omega
      rw [hkk]
      refine ⟨_, rfl, _, rfl, _, rfl, _, rfl, _, rfl, _, rfl, _, rfl, _, rfl, nl, _, rfl, SqL.of hnl11, fun bq hbq => ?_⟩
      have ecut : cutV (names.map V.str) none (some (-((many - i : Nat) : Int))) = (names.take (names.length - many + i)).map V.str := by
        have h1 := cut_negk (names.map V.str) (many - i) (by omega) (by rw [List.length_map]; omega)
        rw [List.length_map] at h1
        rw [List.map_take, h1]
        congr 1
        omega
      rw [ecut]
      have smq := same_new hbq (o := .lst ((names.take (names.length - many + i)).map V.str))
      have hqq : (upd H11 bq (.lst ((names.take (names.length - many + i)).map V.str))) bq = some (.lst ((names.take (names.length - many + i)).map V.str)) := upd_same
      refine ⟨_, rfl, _, rfl, nl, _, rfl, .inl (SqL.of (smq _ _ hnl11)), _, rfl, _, _, rfl, rfl, nl, _, _, _, rfl, rfl, SqL.of (smq _ _ hnl11), atI_at (j := names.length - many + i) (by rw [List.length_map]; omega) (by rw [List.getElem?_map, hnk]; rfl), ?_⟩
      have hll : (names.take (names.length - many + i)).length = names.length - many + i := by rw [List.length_take]; omega
      have wq := w11.same smq
      have knq := smq _ _ hkn
      have trq := TriosAt.same smq htr
      have kpq : ∀ b o, H10 b = some o → b ≠ s → b ≠ kn2 → (upd H11 bq (.lst ((names.take (names.length - many + i)).map V.str))) b = some o := fun b o h n1 n2 => smq _ _ (kp b o h n1 n2)
      generalize (upd H11 bq (.lst ((names.take (names.length - many + i)).map V.str))) = H12 at hqq wq knq trq kpq ⊢
      clear smq hbq ecut hnl11 kp w11 htr hkn
      refine ⟨s, ru, kn2, bq, nk, names.take (names.length - many + i), rs, kvs, 3 * 2 ^ i, _, rfl, wq, by omega, trq, by omega, hqq, fun z => by rw [z] at hll; simp at hll; omega, by omega, knq, by omega, hkw, hg, fun fq H13 one behind fq0 kp13 w13 kn13 ho hb hbl hb3 htr13 => ?_⟩
      have hnn : nk ∉ names.take (names.length - many + i) := not_mem_take_nd hnnd hnk
      obtain ⟨ts, hts, htp⟩ := trq
      obtain ⟨us, hus, hup⟩ := htr13
      have nx : ∀ {a : Addr} {xs : List V}, H12 a = some (.tup xs) → a ≠ kn2 := fun h z => by rw [z, knq] at h; cases h
      have ny : ∀ {a : Addr} {xs : List V}, H12 a = some (.lst xs) → a ≠ kn2 := fun h z => by rw [z, knq] at h; cases h
      have hts13 := kp13 _ _ hts (wq.ne_refs hts) (ny hts)
      have htp13 : Paired (TrioAt H13) ts rs := Paired.mapP htp fun _ _ ⟨w1, g1, g2⟩ => ⟨w1, kp13 _ _ g1 (wq.ne_tup g1) (nx g1), kp13 _ _ g2 (wq.ne_strs g2) (ny g2)⟩
      have hul : us.length ≤ 4 := by
        rw [paired_len hup]
        unfold kinR
        rw [List.length_map]
        exact hg.few one
      have htl := paired_len htp
      refine ⟨ru, fq, _, _, rfl, rfl, hts13, hus, by rw [List.length_map, List.length_map]; exact sl2 (by omega), fun z hz => ?_⟩
      have smz := same_new hz (o := .lst (ts.map V.ref ++ us.map V.ref))
      have hkl2 := putK_le kvs (Sum.inr nk : Key) (V.int (intOf kvs one + (behind.map (intOf kvs)).sum))
      refine ⟨z, rs ++ kinR rs one behind nk, _, _, rfl, fun b o h n1 n2 => smz _ _ (kp13 b o (kpq b o h n1 n2) n1 n2), (w13.same smz).mono (by omega), ⟨ts ++ us, by rw [upd_same, List.map_append], Paired.mapP (paired_append htp13 hup) fun _ _ h => h.same smz⟩, ?_, smz _ _ kn13, by omega, ?_, ?_⟩
      · rw [List.length_append, ← paired_len hup]
        omega
      · intro x hx
        rw [show names.length - many + (i + 1) = names.length - many + i + 1 by omega, take_snoc hnk] at hx
        have e2 : 3 * 2 ^ (i + 1) = 3 * 2 ^ i + 3 * 2 ^ i := by rw [Nat.pow_succ]; omega
        rw [e2]
        rcases List.mem_append.mp hx with hx | hx
        · exact (((hkw x hx).put (n := nk) (fun z => hnn (by rw [← z]; exact hx)) _).more fun r hr => List.mem_append_left _ hr).up (by omega)
        · rw [List.mem_singleton.mp hx]
          exact KwOk.kin (hkw one ho) (fun y hy => hkw y (hb y hy)) hbl
      · rw [show names.length - many + (i + 1) = names.length - many + i + 1 by omega, take_snoc hnk]
        exact hg.kin hnn ho hb hb3
    · clear htr0 hrl0 hkl0 hkw0 hgood0
      rintro σ' H11 ⟨ru, rs, kvs, x6, rfl, kp, w11, htr, hrl, hkn, hkl, hkw, hg⟩
      rw [show names.length - many + many = names.length by omega, List.take_length] at hkw hg
      have hkw : ∀ x ∈ names, KwOk kvs rs 12 x := fun x hx => (hkw x hx).up (by
        rcases (show many = 1 ∨ many = 2 by omega) with e | e <;> rw [e] <;> decide)
      have hnlk : nl ≠ kn2 := fun z => by rw [z, hk10] at hnl10; cases hnl10
      have hnl11 := kp _ _ hnl10 (hw10'.ne_strs hnl10) hnlk
      have bt011 : But s H H11 := fun b o n1 h => kp b o (bt010 _ _ n1 h) n1 (ne_of_none h hk0)
      have nne : names ≠ [] := fun z => by rw [z] at hmL; simp at hmL
      -- mixed
      refine ⟨_, rfl, _, rfl, s, nl, names.map V.str, _, rfl, w11, by omega, hnl11, w11.ne_strs hnl11, by rw [List.length_map]; omega, fun mn H12 ys mn0 bt12 w12 hmn hperm => ?_⟩
      obtain ⟨ms, rfl, hms⟩ := perm_strs hperm
      have hnl12 := bt12 _ _ (w11.ne_strs hnl11) hnl11
      have hkn12 := bt12 _ _ (w11.ne_dk hkn) hkn
      have htr12 := trios_but htr w11 bt12
      have bt012 := bt011.trans bt12
      have w12' := w12.mono (m := n + 2000) (by rw [List.length_map]; omega)
      obtain ⟨ts, hts, htp⟩ := htr12
      have htl := paired_len htp
      refine ⟨_, rfl, _, rfl, s, ru, ts.map V.ref, _, rfl, w12', by omega, hts, w12'.ne_refs hts, by rw [List.length_map]; omega, fun mr H13 zs mr0 bt13 w13 hmr hperm2 => ?_⟩
      obtain ⟨us, rfl, hus⟩ := perm_refs hperm2
      obtain ⟨qs, hqs, hqp⟩ := paired_perm hus htp
      have hqp13 : Paired (TrioAt H13) us qs := Paired.mapP hqp fun _ _ ⟨w1, g1, g2⟩ => ⟨w1, bt13 _ _ (w12'.ne_tup g1) g1, bt13 _ _ (w12'.ne_strs g2) g2⟩
      have hmn13 := bt13 _ _ (w12'.ne_strs hmn) hmn
      have hnl13 := bt13 _ _ (w12'.ne_strs hnl12) hnl12
      have hkn13 := bt13 _ _ (w12'.ne_dk hkn12) hkn12
      have bt013 := bt012.trans bt13
      have w13' := w13.mono (m := n + 3000) (by rw [List.length_map]; omega)
      have hmnames := areNames_perm hms.symm hnames
      have hmgood : GoodR ms qs := hg.perm (fun x hx => hms.mem_iff.mpr hx) hqs.symm
      have hql : qs.length ≤ 100 := by rw [hqs.length_eq]; omega
      obtain ⟨wt, hgw, hwk⟩ := grW_of hg hms hqs hnnd nne (by omega) (by omega) hkw
      have htr13 : TriosAt H13 mr qs := ⟨us, hmr, hqp13⟩
      clear hperm hperm2 htp hqp hts bt13 bt12 htr hnl12 hkn12 w12 w12' kp w11 hnl11 hkn bt011 bt012 bt010 w13
      intro g dx hg1 hdx ndg
      have smg : Same H13 (upd (upd H13 dx (.own g)) g (.ins A.c_Grammar dx [])) := (same_new hdx).trans (same_new (by rw [upd_ne ndg.symm]; exact hg1))
      refine ⟨g, dx, mn, mr, ms, qs, rfl, upd_same, smg _ _ hmn13, hmnames, fun x hx => Nat.le_trans (areNames_len hmnames x hx) (by decide), TriosAt.same smg htr13, hmgood.rulesOk, hql, fun r hr1 => ⟨by rw [isLetter_len (hmgood.ok r hr1).2.1]; decide, by have := (hmgood.ok r hr1).2.2.1; omega⟩, fun H14 kp14 hB => ⟨rfl, ?_⟩⟩
      obtain ⟨dx', kn', st, od, ls, hB⟩ := hB
      have sm14 : Same H13 H14 := fun b o h => kp14 b o (smg _ _ h) (ne_of_none h hg1)
      have G : GramAt A.c_Grammar H14 g ms qs := hB.keep fun a o h _ => h
      clear hB kp14 smg hg1 hdx
      refine ⟨_, rfl, _, rfl, sl2 (by show 3 ≤ 1000000; decide), fun p hp => ?_⟩
      have smp := same_new hp (o := .tup [.ref g, .ref nl, .ref kn2])
      have bt := (bt013.same sm14).same smp
      have w14 := (w13'.same sm14)
      exact q p g nl kn2 _ names ms qs wt kvs bt (w14.same smp) ((bt013.same sm14).freeW w14 hp) upd_same ⟨G.same smp, hgw, smp _ _ (sm14 _ _ hnl13), nne, hn6, fun x hx => hms.mem_iff.mpr hx, smp _ _ (sm14 _ _ hkn13), hwk⟩
end
end SG
namespace SG
open PySem PySem.Spec PyProof.Rows L2 LamX
section
variable {P : Program} {w : World} {K : PySem.W.Frag} {mg : Str → Option Value} {base : Heap} {A : Ad}
theorem ok__law_row (T : Txt K mg A) : FnOk P w K mg base CX0 3 A.a__law_row A.d__law_row ["_law_well_here", "_law_names_here", "_law_known", "_law_most"] sp_row71 := by
  have G__law_draw : FnOk P w K mg base CX0 1 A.a__law_draw A.d__law_draw ["_law_well_here", "_law_many"] sp_draw := ok__law_draw T
  have G__law_one : FnOk P w K mg base CX0 2 A.a__law_one A.d__law_one ["_law_well_here", "_law_some"] sp_one := ok__law_one T
  refine T.F__law_row.ok sc__law_row (fun vs H Q E h => ?_) (fun cdv A0 outer s0 H vs Q E hr h => ?_)
  · obtain ⟨_, _, _, _, _, _, _, _, rfl, _⟩ := h
    rfl
  · obtain ⟨s, nl, kn, most, n, names, wt, kvs, rfl, w0, hn, hnl, nne, hn6, hkn, hkw, q⟩ := h
    have hu := hu_of hr
    refine ⟨_, (pss_cons (ps_set (i := 4) sc__law_row.nd rfl (Or.inl rfl) (pe_lst pa_nil))
 (pss_cons (ps_for PassesOwn.never rfl (pi_range1 (by rfl) T.range (pa_cons (pe_call G__law_draw (hr.mono (by decide)) (by rfl) T.g__law_draw T.F__law_draw.kp T.b__law_draw .nil pass0 (pa_cons (pv 0) (pa_cons pe_int pa_nil))) pa_nil)) (pg_name (i := 5) sc__law_row.nd rfl (Or.inl rfl))
 (pss_cons (ps_set (i := 6) sc__law_row.nd rfl (Or.inl rfl) (pe_call G__law_one (hr.mono (by decide)) (by rfl) T.g__law_one T.F__law_one.kp T.b__law_one .nil pass0 (pa_cons (pv 0) (pa_cons (pv 1) pa_nil))))
 (pss_one (ps_if (pt_cmpR op_le (pe_op op_add (pe_callB (id := "sum") (r := rSum K) (cr_sum rfl) (by rfl) T.sum (by decide +kernel) (pa_cons (pe_lc (own := [("_law_one_here", 7)]) (g := gName 7) (by rfl) sc__law_row.nd (pi_list (pv 4)) (blkOk_by (own := [("_law_one_here", 7)]) (N := ["_law_well_here", "_law_names_here", "_law_known", "_law_most", "_law_row_here", "_law_k", "_law_name", "_law_one_here"]) (sc := defScope s__law_row) (by decide +kernel)) (fun _ _ _ _ _ => (pg_name (i := 7) sc__law_row.nd rfl (Or.inl rfl))) (fun _ _ _ _ _ => pts_nil) (fun _ _ _ _ _ => (pe_dget hu (pv 2) (pv 7) (fun _ _ => rfl)))) pa_nil)) (pe_dget hu (pv 2) (pv 6) (fun _ _ => rfl))) (pv 3) (nomark _)) (pss_one (ps_expr (pe_bm PySem.F.plainAttrs_list PySem.F.slot_list_append PySem.F.type_list_append mt_append (pv 4) (pa_cons (pv 6) pa_nil)))) pss_nil))))
 (pss_one (ps_ret (pv 4))))), ?_⟩
    have npos : 0 < (names.map V.str).length := by rw [List.length_map]; exact List.length_pos_iff.mpr nne
    refine ⟨Nat.zero_le _, fun ra hra => ?_⟩
    have sm1 := same_new hra (o := .lst [])
    have w1 := w0.same sm1
    have h1 : (upd H ra (.lst [])) ra = some (.lst (([] : List Str).map V.str)) := upd_same
    generalize (upd H ra (.lst [])) = H1 at sm1 w1 h1 ⊢
    refine ⟨_, rfl, s, _, n, rfl, w1, by omega, by decide, by decide, fun j H2 j0 j1 bt2 w2 => ?_⟩
    obtain ⟨many, rfl⟩ : ∃ c : Nat, j = (c : Int) := ⟨j.toNat, (Int.toNat_of_nonneg j0).symm⟩
    have h2 := bt2 _ _ (w1.ne_strs h1) h1
    have bt02 := (but_of_same (s := s) sm1).trans bt2
    refine ⟨_, rfl, by omega, by omega, for_range (n := many) (fun k σ' H' => ∃ (x5 x6 : Option V) (row : List Str), σ' = [some (.ref s), some (.ref nl), some (.ref kn), some (.int (most : Int)), some (.ref ra), x5, x6, none] ∧ But s H H' ∧ WellAt H' s (n + 1 + k) ∧ H' ra = some (.lst (row.map V.str)) ∧ row.length ≤ k ∧ ((row = []) ∨ (row.map (intOf kvs)).sum ≤ (most : Int)) ∧ ∀ x ∈ row, x ∈ names) ?_ ?_ ?_⟩
    · exact ⟨_, _, [], rfl, bt02, w2, h2, Nat.le_refl _, .inl rfl, fun x hx => (nomatch hx)⟩
    · clear bt02 w2 h2 bt2 H2 w1 h1 sm1 H1
      rintro k σ' H3 hk ⟨x5, x6, row, rfl, bt3, w3, h3, hrl, hrs, hsub⟩
      have hnl3 := bt3 _ _ (w0.ne_strs hnl) hnl
      have hkn3 := bt3 _ _ (w0.ne_dk hkn) hkn
      refine ⟨_, rfl, _, rfl, s, nl, names.map V.str, _, rfl, w3, by omega, hnl3, w3.ne_strs hnl3, npos, by rw [List.length_map]; omega, fun v H4 hv bt4 w4 => ?_⟩
      obtain ⟨o, ho, rfl⟩ := List.mem_map.mp hv
      have h4 := bt4 _ _ (w3.ne_strs h3) h3
      have hkn4 := bt4 _ _ (w3.ne_dk hkn3) hkn3
      have bt04 := bt3.trans bt4
      have hvo : ∀ x ∈ names, valV kvs (Sum.inr x : Key) = some (.int (intOf kvs x)) := fun x hx => by
        obtain ⟨z, hz, _⟩ := hkw x hx
        exact intOf_eq ⟨(z : Int), hz⟩
      refine ⟨_, rfl, ra, rfl, ⟨_, SqL.of h4⟩, fun D hD => lc_scal (K := K) (ys := (row.map (intOf kvs)).map V.int) (SqL.of h4) hD (by simp) (by rw [List.length_map]; omega) (fun _ => rfl) (fun i x y H' Q' g1 g2 sm k => ?_) (fun H5 sm5 hl5 => ?_)⟩
      · obtain ⟨x1, hx1, rfl⟩ := map_at g1
        have hx2 : (row.map (intOf kvs))[i]? = some (intOf kvs x1) := by rw [List.getElem?_map, hx1]; rfl
        have ey := map_get hx2 g2
        subst ey
        exact ⟨_, rfl, _, rfl, kn, _, rfl, .inl ⟨kvs, Sum.inr x1, .inl (sm _ _ hkn4), rfl, (hvo x1 (hsub x1 (List.mem_of_getElem? hx1))).symm⟩, k _ fun _ _ h => h⟩
      have hkn5 := sm5 _ _ hkn4
      have h5 := sm5 _ _ h4
      have bt05 := bt04.same sm5
      have w5 := w4.same sm5
      refine ⟨D, _, rfl, SqL.of hl5, _, rfl, _, rfl, kn, _, rfl, .inl ⟨kvs, Sum.inr o, .inl hkn5, rfl, (hvo o ho).symm⟩, _, _, rfl, rfl, _, rfl, _, _, rfl, rfl, _, rfl, iteB (fun hlt => ?_) (fun _ => ?_)⟩
      · refine ⟨_, rfl, .inl ⟨rfl, _, SqL.of h5⟩, _, rfl, ra, _, _, rfl, rfl, h5, by rw [List.length_map]; exact sl1 (by omega), ?_⟩
        refine ⟨_, _, row ++ [o], rfl, bt05.cell hra _, (w5.cell w0 hra).mono (by omega), by rw [upd_same, List.map_append]; rfl, by rw [List.length_append]; exact Nat.succ_le_succ hrl, .inr (by rw [List.map_append, List.sum_append]; have h9 := of_decide_eq_true hlt; simpa using h9), fun x hx => ?_⟩
        rcases List.mem_append.mp hx with hx | hx
        · exact hsub x hx
        · rw [List.mem_singleton.mp hx]; exact ho
      · exact ⟨_, _, row, rfl, bt05, w5.mono (by omega), h5, by omega, hrs, hsub⟩
    · rintro σ' H3 ⟨x5, x6, row, rfl, bt3, w3, h3, hrl, hrs, hsub⟩
      refine ⟨_, rfl, q ra H3 row bt3 (w3.mono (by omega)) hra h3 hsub ?_ (by omega)⟩
      rcases hrs with rfl | hrs
      · exact Nat.zero_le _
      · have := wsum_int (wt := wt) (kvs := kvs) (row := row) fun x hx => by
          obtain ⟨z, h1, _, _, h2⟩ := hkw x (hsub x hx)
          exact ⟨z, h1, h2⟩
        omega
end
end SG
namespace SG
open PySem PySem.Spec PyProof.Rows L2 LamX
section
variable {P : Program} {w : World} {K : PySem.W.Frag} {mg : Str → Option Value} {base : Heap} {A : Ad}
theorem ok_like_so_far (T : Txt K mg A) : FnOk P w K mg base CX0 1 A.a_like_so_far A.d_like_so_far ["one", "other"] sp_so := by
  refine T.F_like_so_far.ok sc_like_so_far (fun vs H Q E h => ?_) (fun cdv A0 outer s0 H vs Q E hr h => ?_)
  · obtain ⟨_, _, _, _, rfl, _⟩ := h
    rfl
  · obtain ⟨a, b, xs, ys, rfl, ha, hb, hxl, hyl, q⟩ := h
    have hu := hu_of hr
    refine ⟨_, (pss_cons (ps_set (i := 2) sc_like_so_far.nd rfl (Or.inl rfl) pe_int)
 (pss_cons (ps_while PassesOwn.never (PW.pt (pw_and (pt_cmpR op_lt (pv 2) (pe_callB (id := "len") (r := Evl.rLenS K) call_len_seq (by rfl) T.len (by decide +kernel) (pa_cons (pv 0) pa_nil)) (nomark _)) (pw_and (pt_cmpR op_lt (pv 2) (pe_callB (id := "len") (r := Evl.rLenS K) call_len_seq (by rfl) T.len (by decide +kernel) (pa_cons (pv 1) pa_nil)) (nomark _)) (pw_and1 (pt_cmpR op_eq (pe_ix (r := rIxL K) ix_list (pv 0) (pv 2) (fun _ _ => rfl)) (pe_ix (r := rIxL K) ix_list (pv 1) (pv 2) (fun _ _ => rfl)) (nomark _)))))) (pss_one (ps_aug (i := 2) sc_like_so_far.nd rfl (Or.inl rfl) pe_int ip_add)))
 (pss_one (ps_ret (pv 2))))), ?_⟩
    refine ⟨fun m σ' H' => ∃ i : Nat, σ' = [some (.ref a), some (.ref b), some (.int (i : Int))] ∧ m = xs.length - i ∧ i ≤ xs.length ∧ H' = H ∧ soN xs ys = i + soN (xs.drop i) (ys.drop i), ⟨_, 0, rfl, rfl, Nat.zero_le _, rfl, by rw [Nat.zero_add]; rfl⟩, ?_⟩
    rintro m σ' H' ⟨i, rfl, rfl, hi, rfl, hs⟩
    refine ⟨_, rfl, _, rfl, a, _, rfl, .inl (SqL.of ha), _, _, rfl, rfl, _, rfl, ?_⟩
    rw [List.length_map]
    refine iteB (fun h1 => ?_) (fun h1 => ?_)
    · have h1 : i < xs.length := by have := of_decide_eq_true h1; omega
      refine ⟨_, rfl, _, rfl, b, _, rfl, .inl (SqL.of hb), _, _, rfl, rfl, _, rfl, ?_⟩
      rw [List.length_map]
      refine iteB (fun h2 => ?_) (fun h2 => ?_)
      · have h2 : i < ys.length := by have := of_decide_eq_true h2; omega
        have g1 : xs[i]? = some xs[i] := List.getElem?_eq_getElem h1
        have g2 : ys[i]? = some ys[i] := List.getElem?_eq_getElem h2
        refine ⟨_, rfl, _, rfl, a, _, _, _, rfl, rfl, SqL.of ha, atI_nat (j := i) (by rw [List.getElem?_map, g1]; rfl), _, rfl, _, rfl, b, _, _, _, rfl, rfl, SqL.of hb, atI_nat (j := i) (by rw [List.getElem?_map, g2]; rfl), rfl, _, rfl, iteB (fun h3 => ?_) (fun h3 => ?_)⟩
        · have h3 : xs[i] = ys[i] := V.str.inj (of_decide_eq_true h3)
          refine ⟨fun σ2 H2 => ∃ m', m' < xs.length - i ∧ ∃ i' : Nat, σ2 = [some (.ref a), some (.ref b), some (.int (i' : Int))] ∧ m' = xs.length - i' ∧ i' ≤ xs.length ∧ H2 = H' ∧ soN xs ys = i' + soN (xs.drop i') (ys.drop i'), fun _ _ h => h, ?_⟩
          refine ⟨_, rfl, _, _, rfl, rfl, xs.length - (i + 1), by omega, i + 1, rfl, rfl, by omega, rfl, ?_⟩
          rw [hs, soN_step g1 g2, if_pos h3]
          omega
        · have h3 : ¬ xs[i] = ys[i] := fun z => of_decide_eq_false h3 (by rw [z])
          refine ⟨_, rfl, ?_⟩
          rw [soN_step g1 g2, if_neg h3, Nat.add_zero] at hs
          rw [hs] at q
          exact q
      · have h2 : ys.length ≤ i := by have := of_decide_eq_false h2; omega
        refine ⟨_, rfl, ?_⟩
        rw [List.drop_eq_nil_of_le h2, soN_nil, Nat.add_zero] at hs
        rw [hs] at q
        exact q
    · have h1 : xs.length ≤ i := by have := of_decide_eq_false h1; omega
      refine ⟨_, rfl, ?_⟩
      rw [List.drop_eq_nil_of_le h1, soN_comm [], soN_nil, Nat.add_zero] at hs
      rw [hs] at q
      exact q
def sp_common (TT : List (Addr × Str)) (C : Addr) (f : List Str → List Str → List Str) : Sp := fun vs H Q _ => ∃ (g a b : Addr) (names : List Str) (rs : List Rule) (wt : Str → Nat) (one whole : List Str), vs = [.ref g, .ref a, .ref b] ∧ Tabs TT H ∧ GramAt C H g names rs ∧ GrW names rs wt ∧ H a = some (.lst (one.map V.str)) ∧ H b = some (.lst (whole.map V.str)) ∧ (∀ x ∈ one, x ∈ names) ∧ (∀ x ∈ whole, x ∈ names) ∧ wsum wt one ≤ 24 ∧ wsum wt whole ≤ 24 ∧
  ∀ p H', ExtN H H' → Tabs TT H' → FreeN H p → H' p = some (.lst ((f (outK false (finB false rs wt (ordW names wt)) one) (outK false (finB false rs wt (ordW names wt)) whole)).map V.str)) → Q (.ref p) H'
theorem ok_common_begin (T : Txt K mg A) (TB : TabB base mg A.k_lam A.p_lam) : FnOk P w K mg base CX0 13 A.a_common_begin A.d_common_begin ["grammar", "one", "other"] (sp_common (tabT A) A.c_Grammar beginN) := by
  have G_Made___init__ : FnOk P w K mg base CX0 11 A.a_Made___init__ A.d_Made___init__ ["self", "grammar", "rows"] (sp_Md_init (tabT A) A.c_Made A.c_Grammar) := ok_Md_init T TB
  have G_Made_out : FnOk P w K mg base CX0 2 A.a_Made_out A.d_Made_out ["self", "row"] (sp_Md_out A.c_Made) := ok_Md_out T
  have G_like_so_far : FnOk P w K mg base CX0 1 A.a_like_so_far A.d_like_so_far ["one", "other"] sp_so := ok_like_so_far T
  refine T.F_common_begin.ok sc_common_begin (fun vs H Q E h => ?_) (fun cdv A0 outer s0 H vs Q E hr h => ?_)
  · obtain ⟨_, _, _, _, _, _, _, _, rfl, _⟩ := h
    rfl
  · obtain ⟨g, a, b, names, rs, wt, one, whole, rfl, hT, G, gw, ha, hb, ho, hw, hcap, hcap2, q⟩ := h
    have hu := hu_of hr
    have hu64 := hu64_of hr
    have hol := gw.len ho
    have hwl := gw.len hw
    refine ⟨_, (pss_cons (ps_set (i := 3) sc_common_begin.nd rfl (Or.inl rfl) (pe_make T.mk_Made G_Made___init__ (hr.mono (by decide)) (by rfl) T.g_Made T.b_Made___init__ .nil pass0 (pa_cons (pv 0) (pa_cons (pe_lst (pa_cons (pv 1) (pa_cons (pv 2) pa_nil))) pa_nil))))
 (pss_cons (ps_set (i := 4) sc_common_begin.nd rfl (Or.inl rfl) (pe_meth (pv 3) T.cl_Made T.m_Made_out G_Made_out (hr.mono (by decide)) T.b_Made_out .nil pass0 (pa_cons (pv 1) pa_nil)))
 (pss_one (ps_ret (pe_slice (r := rSlL K) sl_list (pv 4) po_none (po_some (pe_call G_like_so_far (hr.mono (by decide)) (by rfl) T.g_like_so_far T.F_like_so_far.kp T.b_like_so_far .nil pass0 (pa_cons (pv 4) (pa_cons (pe_meth (pv 3) T.cl_Made T.m_Made_out G_Made_out (hr.mono (by decide)) T.b_Made_out .nil pass0 (pa_cons (pv 2) pa_nil)) pa_nil))))))))), ?_⟩
    refine ⟨_, rfl, _, rfl, _, rfl, sl2 (by show 2 ≤ 1000000; decide), fun p hp => ?_⟩
    have sm1 := same_new hp (o := .lst [V.ref a, V.ref b])
    have hp1 : (upd H p (.lst [V.ref a, V.ref b])) p = some (.lst ([a, b].map V.ref)) := upd_same
    generalize (upd H p (.lst [V.ref a, V.ref b])) = H1 at sm1 hp1 ⊢
    intro c dx hc hdx ndc
    have smg : Same H1 (upd (upd H1 dx (.own c)) c (.ins A.c_Made dx [])) := (same_new hdx).trans (same_new (by rw [upd_ne ndc.symm]; exact hc))
    have sm2 := sm1.trans smg
    have hcI : (upd (upd H1 dx (.own c)) c (.ins A.c_Made dx [])) c = some (.ins A.c_Made dx []) := upd_same
    have hpG := smg _ _ hp1
    generalize hHE : (upd (upd H1 dx (.own c)) c (.ins A.c_Made dx [])) = H2 at smg sm2 hcI hpG
    rw [← hHE]
    rw [hHE]
    refine ⟨c, dx, g, p, names, rs, wt, [one, whole], rfl, hcI, tabs_same hT sm2, G.same sm2, gw, ⟨[a, b], hpG, .cons (sm2 _ _ ha) (.cons (sm2 _ _ hb) .nil)⟩, by show 2 ≤ 1000; decide, fun r hr => ?_, fun kn ba H3 kp3 T3 M => ⟨rfl, ?_⟩⟩
    · rcases List.mem_cons.mp hr with rfl | hr
      · exact ⟨ho, hcap⟩
      · rw [List.mem_singleton.mp hr]
        exact ⟨hw, hcap2⟩
    obtain ⟨dx', hM⟩ := M.ins
    have e3 : ExtN H H3 := fun b o h t => kp3 b o (sm2 _ _ h) t fun z => by
      rw [z] at h
      have := sm1 _ _ h
      rw [hc] at this
      cases this
    have ha3 := e3.lst ha
    have hb3 := e3.lst hb
    clear kp3 smg sm2 hcI hpG hHE hc hdx ndc hp1 sm1
    refine ⟨_, rfl, c, _, _, rfl, hM, mdfs_no _ _ (by decide +kernel) (by decide +kernel), _, rfl, c, kn, ba, a, names, rs, wt, one, rfl, M, gw, ha3, by omega, fun o1 H4 sm4 _ ho1 => ?_⟩
    refine ⟨_, rfl, _, rfl, _, rfl, c, _, _, rfl, sm4 _ _ hM, mdfs_no _ _ (by decide +kernel) (by decide +kernel), _, rfl, c, kn, ba, b, names, rs, wt, whole, rfl, M.ext (extN_same sm4), gw, sm4 _ _ hb3, by omega, fun o2 H5 sm5 _ ho2 => ?_⟩
    have hl1 := (outF_len gw false ho).1
    have hl2 := (outF_len gw false hw).1
    generalize outK false (finB false rs wt (ordW names wt)) one = part at ho1 hl1 q ⊢
    generalize outK false (finB false rs wt (ordW names wt)) whole = row at ho2 hl2 q ⊢
    have ho15 := sm5 _ _ ho1
    have e5 := e3.same (sm4.trans sm5)
    have T5 := tabs_same T3 (sm4.trans sm5)
    refine ⟨o1, o2, part, row, rfl, ho15, ho2, by omega, by omega, _, rfl, o1, _, rfl, SqL.of ho15, fun p hp => ?_⟩
    rw [cut_lt, ← List.map_take]
    exact q p _ (e5.same (same_new hp)) (tabs_same T5 (same_new hp)) (e5.fr hp) upd_same
theorem ok_common_end (T : Txt K mg A) (TB : TabB base mg A.k_lam A.p_lam) : FnOk P w K mg base CX0 13 A.a_common_end A.d_common_end ["grammar", "one", "other"] (sp_common (tabT A) A.c_Grammar endN) := by
  have G_Made___init__ : FnOk P w K mg base CX0 11 A.a_Made___init__ A.d_Made___init__ ["self", "grammar", "rows"] (sp_Md_init (tabT A) A.c_Made A.c_Grammar) := ok_Md_init T TB
  have G_Made_out : FnOk P w K mg base CX0 2 A.a_Made_out A.d_Made_out ["self", "row"] (sp_Md_out A.c_Made) := ok_Md_out T
  have G_like_so_far : FnOk P w K mg base CX0 1 A.a_like_so_far A.d_like_so_far ["one", "other"] sp_so := ok_like_so_far T
  refine T.F_common_end.ok sc_common_end (fun vs H Q E h => ?_) (fun cdv A0 outer s0 H vs Q E hr h => ?_)
  · obtain ⟨_, _, _, _, _, _, _, _, rfl, _⟩ := h
    rfl
  · obtain ⟨g, a, b, names, rs, wt, one, whole, rfl, hT, G, gw, ha, hb, ho, hw, hcap, hcap2, q⟩ := h
    have hu := hu_of hr
    have hu64 := hu64_of hr
    have hol := gw.len ho
    have hwl := gw.len hw
    refine ⟨_, (pss_cons (ps_set (i := 3) sc_common_end.nd rfl (Or.inl rfl) (pe_make T.mk_Made G_Made___init__ (hr.mono (by decide)) (by rfl) T.g_Made T.b_Made___init__ .nil pass0 (pa_cons (pv 0) (pa_cons (pe_lst (pa_cons (pv 1) (pa_cons (pv 2) pa_nil))) pa_nil))))
 (pss_cons (ps_set (i := 4) sc_common_end.nd rfl (Or.inl rfl) (pe_meth (pv 3) T.cl_Made T.m_Made_out G_Made_out (hr.mono (by decide)) T.b_Made_out .nil pass0 (pa_cons (pv 1) pa_nil)))
 (pss_cons (ps_set (i := 5) sc_common_end.nd rfl (Or.inl rfl) (pe_call G_like_so_far (hr.mono (by decide)) (by rfl) T.g_like_so_far T.F_like_so_far.kp T.b_like_so_far .nil pass0 (pa_cons (pe_revL (pv 4)) (pa_cons (pe_revL (pe_meth (pv 3) T.cl_Made T.m_Made_out G_Made_out (hr.mono (by decide)) T.b_Made_out .nil pass0 (pa_cons (pv 2) pa_nil))) pa_nil))))
 (pss_one (ps_ret (pe_slice (r := rSlL K) sl_list (pv 4) (po_some (pe_op op_sub (pe_callB (id := "len") (r := Evl.rLenS K) call_len_seq (by rfl) T.len (by decide +kernel) (pa_cons (pv 4) pa_nil)) (pv 5))) po_none)))))), ?_⟩
    refine ⟨_, rfl, _, rfl, _, rfl, sl2 (by show 2 ≤ 1000000; decide), fun p hp => ?_⟩
    have sm1 := same_new hp (o := .lst [V.ref a, V.ref b])
    have hp1 : (upd H p (.lst [V.ref a, V.ref b])) p = some (.lst ([a, b].map V.ref)) := upd_same
    generalize (upd H p (.lst [V.ref a, V.ref b])) = H1 at sm1 hp1 ⊢
    intro c dx hc hdx ndc
    have smg : Same H1 (upd (upd H1 dx (.own c)) c (.ins A.c_Made dx [])) := (same_new hdx).trans (same_new (by rw [upd_ne ndc.symm]; exact hc))
    have sm2 := sm1.trans smg
    have hcI : (upd (upd H1 dx (.own c)) c (.ins A.c_Made dx [])) c = some (.ins A.c_Made dx []) := upd_same
    have hpG := smg _ _ hp1
    generalize hHE : (upd (upd H1 dx (.own c)) c (.ins A.c_Made dx [])) = H2 at smg sm2 hcI hpG
    rw [← hHE]
    rw [hHE]
    refine ⟨c, dx, g, p, names, rs, wt, [one, whole], rfl, hcI, tabs_same hT sm2, G.same sm2, gw, ⟨[a, b], hpG, .cons (sm2 _ _ ha) (.cons (sm2 _ _ hb) .nil)⟩, by show 2 ≤ 1000; decide, fun r hr => ?_, fun kn ba H3 kp3 T3 M => ⟨rfl, ?_⟩⟩
    · rcases List.mem_cons.mp hr with rfl | hr
      · exact ⟨ho, hcap⟩
      · rw [List.mem_singleton.mp hr]
        exact ⟨hw, hcap2⟩
    obtain ⟨dx', hM⟩ := M.ins
    have e3 : ExtN H H3 := fun b o h t => kp3 b o (sm2 _ _ h) t fun z => by
      rw [z] at h
      have := sm1 _ _ h
      rw [hc] at this
      cases this
    have ha3 := e3.lst ha
    have hb3 := e3.lst hb
    clear kp3 smg sm2 hcI hpG hHE hc hdx ndc hp1 sm1
    refine ⟨_, rfl, c, _, _, rfl, hM, mdfs_no _ _ (by decide +kernel) (by decide +kernel), _, rfl, c, kn, ba, a, names, rs, wt, one, rfl, M, gw, ha3, by omega, fun o1 H4 sm4 _ ho1 => ?_⟩
    have hl1 := (outF_len gw false ho).1
    have hl2 := (outF_len gw false hw).1
    refine ⟨_, rfl, o1, _, rfl, SqL.of ho1, fun r1 hr1 => ?_⟩
    rw [← List.map_reverse]
    have smr := same_new hr1 (o := .lst ((outK false (finB false rs wt (ordW names wt)) one).reverse.map V.str))
    have hr1a : (upd H4 r1 (.lst ((outK false (finB false rs wt (ordW names wt)) one).reverse.map V.str))) r1 = some (.lst ((outK false (finB false rs wt (ordW names wt)) one).reverse.map V.str)) := upd_same
    have sm4r := sm4.trans smr
    have ho1r := smr _ _ ho1
    generalize (upd H4 r1 (.lst ((outK false (finB false rs wt (ordW names wt)) one).reverse.map V.str))) = H4r at smr hr1a sm4r ho1r ⊢
    refine ⟨_, rfl, c, _, _, rfl, sm4r _ _ hM, mdfs_no _ _ (by decide +kernel) (by decide +kernel), _, rfl, c, kn, ba, b, names, rs, wt, whole, rfl, M.ext (extN_same sm4r), gw, sm4r _ _ hb3, by omega, fun o2 H5 sm5 _ ho2 => ?_⟩
    generalize outK false (finB false rs wt (ordW names wt)) one = part at ho1r hr1a hl1 q ⊢
    generalize outK false (finB false rs wt (ordW names wt)) whole = row at ho2 hl2 q ⊢
    refine ⟨o2, _, rfl, SqL.of ho2, fun r2 hr2 => ?_⟩
    rw [← List.map_reverse]
    have smr2 := same_new hr2 (o := .lst (row.reverse.map V.str))
    have hr2a : (upd H5 r2 (.lst (row.reverse.map V.str))) r2 = some (.lst (row.reverse.map V.str)) := upd_same
    have sm35 := (sm4r.trans sm5).trans smr2
    have ho15 := smr2 _ _ (sm5 _ _ ho1r)
    have hr15 := smr2 _ _ (sm5 _ _ hr1a)
    have e5 := e3.same sm35
    have T5 := tabs_same T3 sm35
    generalize (upd H5 r2 (.lst (row.reverse.map V.str))) = H6 at hr2a ho15 hr15 e5 T5 ⊢
    refine ⟨r1, r2, part.reverse, row.reverse, rfl, hr15, hr2a, by rw [List.length_reverse]; omega, by rw [List.length_reverse]; omega, ?_⟩
    have hle := soN_le part.reverse row.reverse
    rw [List.length_reverse] at hle
    refine ⟨_, rfl, _, rfl, o1, _, rfl, .inl (SqL.of ho15), _, rfl, _, _, rfl, rfl, ((part.length - soN part.reverse row.reverse : Nat) : Int), by rw [List.length_map]; exact congrArg V.int (by omega), o1, _, rfl, SqL.of ho15, fun p hp => ?_⟩
    rw [cut_ge, ← List.map_drop]
    exact q p _ (e5.same (same_new hp)) (tabs_same T5 (same_new hp)) (e5.fr hp) upd_same
theorem ok__law_same (T : Txt K mg A) : FnOk P w K mg base CX0 1 A.a__law_same A.d__law_same ["_law_one_here", "_law_other"] sp_same := by
  refine T.F__law_same.ok sc__law_same (fun vs H Q E h => ?_) (fun cdv A0 outer s0 H vs Q E hr h => ?_)
  · obtain ⟨_, _, _, _, rfl, _⟩ := h
    rfl
  · obtain ⟨a, b, xs, ys, rfl, ha, hb, hxl, hyl, q⟩ := h
    have hu := hu_of hr
    have hu64 := hu64_of hr
    refine ⟨_, (pss_cons (ps_set (i := 2) sc__law_same.nd rfl (Or.inl rfl) (pe_callB (id := "max") (r := rMax K) (cr_max rfl) (by rfl) T.max (by decide +kernel) (pa_cons (pe_lc (own := [("_law_k", 3)]) (g := gName 3) (by rfl) sc__law_same.nd (pi_range1 (by rfl) T.range (pa_cons (pe_op op_add pe_int (pe_callB (id := "min") (call_min2 rfl) (by rfl) T.min (by decide +kernel) (pa_cons (pe_callB (id := "len") (r := Evl.rLenS K) call_len_seq (by rfl) T.len (by decide +kernel) (pa_cons (pv 0) pa_nil)) (pa_cons (pe_callB (id := "len") (r := Evl.rLenS K) call_len_seq (by rfl) T.len (by decide +kernel) (pa_cons (pv 1) pa_nil)) pa_nil)))) pa_nil)) (blkOk_by (own := [("_law_k", 3)]) (N := ["_law_one_here", "_law_other", "_law_many", "_law_k"]) (sc := defScope s__law_same) (by decide +kernel)) (fun _ _ _ _ _ => (pg_name (i := 3) sc__law_same.nd rfl (Or.inl rfl))) (fun _ _ _ _ _ => pts_one (pt_cmpR (r := rEqP K) (op_eqP hu64) (pe_slice (r := rSlL K) sl_list (pv 0) po_none (po_some (pv 3))) (pe_slice (r := rSlL K) sl_list (pv 1) po_none (po_some (pv 3))) (nomark _))) (fun _ _ _ _ _ => (pv 3))) pa_nil)))
 (pss_one (ps_ret (pe_slice (r := rSlL K) sl_list (pv 0) po_none (po_some (pv 2)))))), ?_⟩
    have hmin : (if ((ys.length : Nat) : Int) < ((xs.length : Nat) : Int) then ((ys.length : Nat) : Int) else ((xs.length : Nat) : Int)) = ((min xs.length ys.length : Nat) : Int) := by
      by_cases c : ((ys.length : Nat) : Int) < ((xs.length : Nat) : Int)
      · rw [if_pos c]
        omega
      · rw [if_neg c]
        omega
    refine ⟨_, rfl, a, _, rfl, .inl (SqL.of ha), _, rfl, b, _, rfl, .inl (SqL.of hb), _, _, rfl, _, _, rfl, rfl, ((1 + min xs.length ys.length : Nat) : Int), by rw [List.length_map, List.length_map, hmin]; exact congrArg (fun q => [V.int q]) (by omega), by omega, by omega, ?_⟩
    rw [Int.toNat_natCast]
    refine fun D hD => lc_range (fun j H' => Same H H' ∧ H' D = some (.lst ((((List.range j).filter fun k => decide (xs.take k = ys.take k)).map fun k => ((k : Nat) : Int)).map V.int))) ?_ ?_ ?_
    · exact ⟨same_new hD, upd_same⟩
    · rintro j H1 hj ⟨sm1, h1⟩
      rw [show (0 : Int) + (j : Nat) = ((j : Nat) : Int) by omega]
      have ha1 := sm1 _ _ ha
      have hb1 := sm1 _ _ hb
      refine ⟨rfl, ?_⟩
      refine ⟨_, rfl, _, rfl, _, rfl, a, _, rfl, SqL.of ha1, fun e he => ?_⟩
      rw [cut_lt, ← List.map_take]
      have sme := same_new he (o := .lst ((xs.take j).map V.str))
      refine ⟨_, rfl, _, rfl, _, rfl, b, _, rfl, SqL.of (sme _ _ hb1), fun f hf => ?_⟩
      rw [cut_lt, ← List.map_take]
      have smf := same_new hf (o := .lst ((ys.take j).map V.str))
      refine ⟨eSs (xs.take j), eSs (ys.take j), dp_Ss (smf _ _ upd_same), dp_Ss upd_same, Nat.le_trans (dep_Ss _) (by decide), _, rfl, ?_⟩
      rw [enc_Ss]
      have h1b := smf _ _ (sme _ _ h1)
      have smb := (sm1.trans sme).trans smf
      generalize (upd (upd H1 e (.lst ((xs.take j).map V.str))) f (.lst ((ys.take j).map V.str))) = H2 at h1b smb ⊢
      rw [List.range_succ, List.filter_append]
      refine iteB (fun hc => ?_) (fun hc => ?_)
      · rw [List.filter_cons, if_pos hc]
        refine ⟨_, rfl, _, h1b, ?_, same_mut smb hD, ?_⟩
        · rw [List.length_map, List.length_map]
          have h5 := List.length_filter_le (fun k => decide (xs.take k = ys.take k)) (List.range j)
          rw [List.length_range] at h5
          exact sl1 (by omega)
        · rw [upd_same, List.map_append, List.map_append]; rfl
      · rw [List.filter_cons, if_neg (by rw [hc]; exact Bool.false_ne_true), List.filter_nil, List.append_nil]
        exact ⟨smb, h1b⟩
    · rintro H1 ⟨sm1, h1⟩
      have hs1 := soN_le xs ys
      have hs2 := soN_le ys xs
      rw [soN_comm] at hs2
      have hin : soN xs ys ∈ (List.range (1 + min xs.length ys.length)).filter fun k => decide (xs.take k = ys.take k) := List.mem_filter.mpr ⟨List.mem_range.mpr (by omega), decide_eq_true (soN_take xs ys)⟩
      refine ⟨D, _, rfl, SqL.of h1, by rw [List.length_map]; exact List.length_pos_of_mem hin, fun m hm hmx => ?_⟩
      obtain ⟨k, hk, rfl⟩ := List.mem_map.mp hm
      obtain ⟨hk1, hk2⟩ := List.mem_filter.mp hk
      have hk1 := List.mem_range.mp hk1
      have hk3 := soN_most (k := k) (xs := xs) (ys := ys) (by omega) (by omega) (of_decide_eq_true hk2)
      have hk4 := hmx _ (List.mem_map.mpr ⟨_, hin, rfl⟩)
      have hke : k = soN xs ys := by omega
      refine ⟨_, rfl, _, rfl, _, rfl, a, _, rfl, SqL.of (sm1 _ _ ha), fun p hp => ?_⟩
      rw [cut_lt, ← List.map_take, hke]
      exact q p _ (sm1.trans (same_new hp)) (sm1.free hp) upd_same
end
end SG
namespace SG
open PySem PySem.Spec PyProof.Rows L2 LamX
section
variable {P : Program} {w : World} {K : PySem.W.Frag} {mg : Str → Option Value} {base : Heap} {A : Ad}
theorem RowsAt.ext {H H' : Hp} {l : Addr} {rows : List (List Str)} (h : RowsAt H l rows) (e : ExtN H H') : RowsAt H' l rows := by
  obtain ⟨ts, h1, h2⟩ := h
  exact ⟨ts, e.lst h1, Paired.mapP h2 fun _ _ k => e.lst k⟩
theorem RowsAt.butW {H H' : Hp} {s l : Addr} {n : Nat} {rows : List (List Str)} (h : RowsAt H l rows) (w : WellAt H s n) (b : But s H H') : RowsAt H' l rows := by
  obtain ⟨ts, h1, h2⟩ := h
  exact ⟨ts, b _ _ (w.ne_refs h1) h1, Paired.mapP h2 fun _ _ k => b _ _ (w.ne_strs k) k⟩
theorem RowsAt.get {H : Hp} {l : Addr} {rows : List (List Str)} (h : RowsAt H l rows) (i : Nat) {r : List Str} (hr : rows[i]? = some r) : ∃ (ts : List Addr) (t : Addr), H l = some (.lst (ts.map V.ref)) ∧ atI (ts.map V.ref) (i : Int) = some (.ref t) ∧ H t = some (.lst (r.map V.str)) := by
  obtain ⟨ts, h1, h2⟩ := h
  have hl : i < ts.length := by
    rw [paired_len h2]
    exact (List.getElem?_eq_some_iff.mp hr).1
  have ht : ts[i]? = some ts[i] := List.getElem?_eq_getElem hl
  exact ⟨ts, ts[i], h1, atI_nat (by rw [List.getElem?_map, ht]; rfl), paired_ix h2 ht hr⟩
structure St68 (T : List (Addr × Str)) (C : Addr) (H0 H : Hp) (s g nl kn oa ob D du : Addr) (names ms : List Str) (qs : List Rule) (wt : Str → Nat) (kvs : List (Key × V)) (n : Nat) (one other : List Str) (outs due : List (List Str)) : Prop where
  c : Cell71 T C H0 H s g nl kn names ms qs wt kvs n
  o1 : H oa = some (.lst (one.map V.str))
  o2 : H ob = some (.lst (other.map V.str))
  ou : RowsAt H D outs
  dw : RowsAt H du due
theorem St68.ext {T : List (Addr × Str)} {C : Addr} {H0 H H' : Hp} {s g nl kn oa ob D du : Addr} {names ms : List Str} {qs : List Rule} {wt : Str → Nat} {kvs : List (Key × V)} {n : Nat} {one other : List Str} {outs due : List (List Str)} (h : St68 T C H0 H s g nl kn oa ob D du names ms qs wt kvs n one other outs due) (e : ExtN H H') (t : Tabs T H') : St68 T C H0 H' s g nl kn oa ob D du names ms qs wt kvs n one other outs due :=
  ⟨h.c.ext e t, e.lst h.o1, e.lst h.o2, h.ou.ext e, h.dw.ext e⟩
def sp_law (K : PySem.W.Frag) (A : Ad) : Sp := fun vs H Q _ => ∃ (a : Addr) (ns : List Int), vs = [.ref a] ∧ SqL K H a (ns.map V.int) ∧ ns.length ≤ 63 ∧ Tabs (tabT A) H ∧ ∀ H', Q (.bl true) H'
theorem ok_law {f : Addr} {fd : FuncData} (F : Fun K "law" "law" s_law f fd) (T : Txt K mg A) (TB : TabB base mg A.k_lam A.p_lam) : FnOk P w K mg base CX0 15 f fd ["_law_script"] (sp_law K A) := by
  have G__law_cell_at : FnOk P w K mg base CX0 1 A.a__law_cell_at A.d__law_cell_at ["_law_script", "_law_k"] (sp_cell_at K) := ok__law_cell_at T
  have G__law_well : FnOk P w K mg base CX0 1 A.a__law_well A.d__law_well ["_law_cell"] sp_well := ok__law_well T
  have G__law_draw : FnOk P w K mg base CX0 1 A.a__law_draw A.d__law_draw ["_law_well_here", "_law_many"] sp_draw := ok__law_draw T
  have G__law_grammar : FnOk P w K mg base CX0 6 A.a__law_grammar A.d__law_grammar ["_law_well_here"] (sp_gram A.c_Grammar) := ok__law_grammar T
  have G__law_row : FnOk P w K mg base CX0 3 A.a__law_row A.d__law_row ["_law_well_here", "_law_names_here", "_law_known", "_law_most"] sp_row71 := ok__law_row T
  have G_made_of : FnOk P w K mg base CX0 11 A.a_made_of A.d_made_of ["grammar", "kind", "one"] (sp_made_of (tabT A) A.c_Grammar) := ok_made_of T TB
  have G_common_begin : FnOk P w K mg base CX0 13 A.a_common_begin A.d_common_begin ["grammar", "one", "other"] (sp_common (tabT A) A.c_Grammar beginN) := ok_common_begin T TB
  have G_common_end : FnOk P w K mg base CX0 13 A.a_common_end A.d_common_end ["grammar", "one", "other"] (sp_common (tabT A) A.c_Grammar endN) := ok_common_end T TB
  have G__law_same : FnOk P w K mg base CX0 1 A.a__law_same A.d__law_same ["_law_one_here", "_law_other"] sp_same := ok__law_same T
  refine F.ok sc_law (fun vs H Q E h => ?_) (fun cdv A0 outer s0 H vs Q E hr h => ?_)
  · obtain ⟨a, ns, rfl, _⟩ := h
    rfl
  · obtain ⟨a, ns, rfl, hS, hlen, hT, q⟩ := h
    have hu := hu_of hr
    have hu64 := hu64_of hr
    refine ⟨_, (pss_cons (ps_for PassesOwn.never rfl (pi_list (pe_op op_cat (pe_lst (pa_cons (pe_call G__law_cell_at (hr.mono (by decide)) (by rfl) T.g__law_cell_at T.F__law_cell_at.kp T.b__law_cell_at .nil pass0 (pa_cons (pv 0) (pa_cons pe_int pa_nil))) pa_nil)) (pe_slice (r := rSlL K) sl_list (pv 0) (po_some pe_int) (po_some pe_int)))) (pg_name (i := 1) sc_law.nd rfl (Or.inl rfl))
 (pss_cons (ps_set (i := 2) sc_law.nd rfl (Or.inr rfl) (pe_call G__law_well (hr.mono (by decide)) (by rfl) T.g__law_well T.F__law_well.kp T.b__law_well .nil pass0 (pa_cons (pv 1) pa_nil)))
 (pss_cons (ps_asg (pe_call G__law_grammar (hr.mono (by decide)) (by rfl) T.g__law_grammar T.F__law_grammar.kp T.b__law_grammar .nil pass0 (pa_cons (pv 2) pa_nil)) (pg_tup (by rfl) (pgs_cons (pg_name (i := 3) sc_law.nd rfl (Or.inr rfl)) (pgs_cons (pg_name (i := 4) sc_law.nd rfl (Or.inr rfl)) (pgs_cons (pg_name (i := 5) sc_law.nd rfl (Or.inr rfl)) pgs_nil)))))
 (pss_cons (ps_setLc (i := 6) (own := [("_law_k", 11)]) (g := gName 11) (by rfl) sc_law.nd rfl rfl (sw_true rfl rfl rfl (by decide +kernel)) (pi_range1 (by rfl) T.range (pa_cons pe_int pa_nil)) (blkOk_by (own := [("_law_k", 11)]) (N := ["_law_script", "_law_cell", "_law_well_here", "_law_grammar_here", "_law_names_here", "_law_known", "_law_some", "_law_one_here", "_law_other", "_law_outs", "_law_due", "_law_k", "_law_row_here"]) (sc := defScope s_law) (by decide +kernel)) (fun _ _ _ _ _ => (pg_name (i := 11) sc_law.nd rfl (Or.inl rfl))) (fun _ _ _ _ _ => pts_nil) (fun _ _ _ _ _ => (pe_slice (r := rSlL K) sl_list (pe_call G__law_row (hr.mono (by decide)) (by rfl) T.g__law_row T.F__law_row.kp T.b__law_row .nil pass0 (pa_cons (pv 2) (pa_cons (pv 4) (pa_cons (pv 5) (pa_cons pe_int pa_nil))))) po_none (po_some pe_int))))
 (pss_cons (ps_set (i := 7) sc_law.nd rfl (Or.inl rfl) (pe_op op_cat (pe_op op_cat (pe_ix (r := rIxL K) ix_list (pv 6) pe_int (fun _ _ => rfl)) (pe_ix (r := rIxL K) ix_list (pv 6) pe_int (fun _ _ => rfl))) (pe_ix (r := rIxL K) ix_list (pv 6) pe_int (fun _ _ => rfl))))
 (pss_cons (ps_set (i := 8) sc_law.nd rfl (Or.inl rfl) (pe_op op_cat (pe_op op_cat (pe_ix (r := rIxL K) ix_list (pe_lst (pa_cons (pe_ix (r := rIxL K) ix_list (pv 6) pe_int (fun _ _ => rfl)) (pa_cons (pe_lst pa_nil) pa_nil))) (pe_op op_fdiv (pe_call G__law_draw (hr.mono (by decide)) (by rfl) T.g__law_draw T.F__law_draw.kp T.b__law_draw .nil pass0 (pa_cons (pv 2) (pa_cons pe_int pa_nil))) pe_int) (fun _ _ => rfl)) (pe_ix (r := rIxL K) ix_list (pv 6) pe_int (fun _ _ => rfl))) (pe_ix (r := rIxL K) ix_list (pe_lst (pa_cons (pe_ix (r := rIxL K) ix_list (pv 6) pe_int (fun _ _ => rfl)) (pa_cons (pe_lst pa_nil) pa_nil))) (pe_op op_fdiv (pe_call G__law_draw (hr.mono (by decide)) (by rfl) T.g__law_draw T.F__law_draw.kp T.b__law_draw .nil pass0 (pa_cons (pv 2) (pa_cons pe_int pa_nil))) pe_int) (fun _ _ => rfl))))
 (pss_cons (ps_setLc (i := 9) (own := [("_law_row_here", 12)]) (g := gName 12) (by rfl) sc_law.nd rfl rfl (sw_true rfl rfl rfl (by decide +kernel)) (pi_tup (pe_tup (pa_cons (pv 7) (pa_cons (pv 8) pa_nil)))) (blkOk_by (own := [("_law_row_here", 12)]) (N := ["_law_script", "_law_cell", "_law_well_here", "_law_grammar_here", "_law_names_here", "_law_known", "_law_some", "_law_one_here", "_law_other", "_law_outs", "_law_due", "_law_k", "_law_row_here"]) (sc := defScope s_law) (by decide +kernel)) (fun _ _ _ _ _ => (pg_name (i := 12) sc_law.nd rfl (Or.inl rfl))) (fun _ _ _ _ _ => pts_nil) (fun _ _ _ _ _ => (pe_call G_made_of (hr.mono (by decide)) (by rfl) T.g_made_of T.F_made_of.kp T.b_made_of .nil pass0 (pa_cons (pv 3) (pa_cons pe_str (pa_cons (pv 12) pa_nil))))))
 (pss_cons (ps_set (i := 10) sc_law.nd rfl (Or.inl rfl) (pe_lst (pa_cons (pe_call G__law_same (hr.mono (by decide)) (by rfl) T.g__law_same T.F__law_same.kp T.b__law_same .nil pass0 (pa_cons (pe_ix (r := rIxL K) ix_list (pv 9) pe_int (fun _ _ => rfl)) (pa_cons (pe_ix (r := rIxL K) ix_list (pv 9) pe_int (fun _ _ => rfl)) pa_nil))) (pa_cons (pe_revL (pe_call G__law_same (hr.mono (by decide)) (by rfl) T.g__law_same T.F__law_same.kp T.b__law_same .nil pass0 (pa_cons (pe_revL (pe_ix (r := rIxL K) ix_list (pv 9) pe_int (fun _ _ => rfl))) (pa_cons (pe_revL (pe_ix (r := rIxL K) ix_list (pv 9) pe_int (fun _ _ => rfl))) pa_nil)))) pa_nil))))
 (pss_cons (ps_if (PW.pt (pw_or (pt_cmpR (r := rNeP K) (op_neP hu64) (pe_call G_common_begin (hr.mono (by decide)) (by rfl) T.g_common_begin T.F_common_begin.kp T.b_common_begin .nil pass0 (pa_cons (pv 3) (pa_cons (pv 7) (pa_cons (pv 8) pa_nil)))) (pe_ix (r := rIxL K) ix_list (pv 10) pe_int (fun _ _ => rfl)) (nomark _)) (pw_or1 (pt_cmpR (r := rNeP K) (op_neP hu64) (pe_call G_common_begin (hr.mono (by decide)) (by rfl) T.g_common_begin T.F_common_begin.kp T.b_common_begin .nil pass0 (pa_cons (pv 3) (pa_cons (pv 8) (pa_cons (pv 7) pa_nil)))) (pe_ix (r := rIxL K) ix_list (pv 10) pe_int (fun _ _ => rfl)) (nomark _))))) (pss_one (ps_ret pe_bl)) pss_nil)
 (pss_cons (ps_if (PW.pt (pw_or (pt_cmpR (r := rNeP K) (op_neP hu64) (pe_call G_common_end (hr.mono (by decide)) (by rfl) T.g_common_end T.F_common_end.kp T.b_common_end .nil pass0 (pa_cons (pv 3) (pa_cons (pv 7) (pa_cons (pv 8) pa_nil)))) (pe_ix (r := rIxL K) ix_list (pv 10) pe_int (fun _ _ => rfl)) (nomark _)) (pw_or1 (pt_cmpR (r := rNeP K) (op_neP hu64) (pe_call G_common_end (hr.mono (by decide)) (by rfl) T.g_common_end T.F_common_end.kp T.b_common_end .nil pass0 (pa_cons (pv 3) (pa_cons (pv 8) (pa_cons (pv 7) pa_nil)))) (pe_ix (r := rIxL K) ix_list (pv 10) pe_int (fun _ _ => rfl)) (nomark _))))) (pss_one (ps_ret pe_bl)) pss_nil)
 (pss_cons (ps_if (PW.pt (pw_or (pt_cmpR (r := rNeP K) (op_neP hu64) (pe_call G_common_begin (hr.mono (by decide)) (by rfl) T.g_common_begin T.F_common_begin.kp T.b_common_begin .nil pass0 (pa_cons (pv 3) (pa_cons (pv 7) (pa_cons (pv 7) pa_nil)))) (pe_ix (r := rIxL K) ix_list (pv 9) pe_int (fun _ _ => rfl)) (nomark _)) (pw_or1 (pt_cmpR (r := rNeP K) (op_neP hu64) (pe_call G_common_end (hr.mono (by decide)) (by rfl) T.g_common_end T.F_common_end.kp T.b_common_end .nil pass0 (pa_cons (pv 3) (pa_cons (pv 8) (pa_cons (pv 8) pa_nil)))) (pe_ix (r := rIxL K) ix_list (pv 9) pe_int (fun _ _ => rfl)) (nomark _))))) (pss_one (ps_ret pe_bl)) pss_nil)
 (pss_cons (ps_expr (pe_bm PySem.F.plainAttrs_list PySem.F.slot_list_append PySem.F.type_list_append mt_append (pe_call G_common_begin (hr.mono (by decide)) (by rfl) T.g_common_begin T.F_common_begin.kp T.b_common_begin .nil pass0 (pa_cons (pv 3) (pa_cons (pv 7) (pa_cons (pv 8) pa_nil)))) (pa_cons (pe_ix (r := rIxL K) ix_list (pv 4) pe_int (fun _ _ => rfl)) pa_nil)))
 (pss_cons (ps_expr (pe_bm PySem.F.plainAttrs_list PySem.F.slot_list_append PySem.F.type_list_append mt_append (pe_call G_common_end (hr.mono (by decide)) (by rfl) T.g_common_end T.F_common_end.kp T.b_common_end .nil pass0 (pa_cons (pv 3) (pa_cons (pv 7) (pa_cons (pv 8) pa_nil)))) (pa_cons (pe_ix (r := rIxL K) ix_list (pv 4) pe_int (fun _ _ => rfl)) pa_nil)))
 (pss_one (ps_if (PW.pt (pw_or (pt_cmpR (r := rNeP K) (op_neP hu64) (pe_call G_common_begin (hr.mono (by decide)) (by rfl) T.g_common_begin T.F_common_begin.kp T.b_common_begin .nil pass0 (pa_cons (pv 3) (pa_cons (pv 7) (pa_cons (pv 8) pa_nil)))) (pe_ix (r := rIxL K) ix_list (pv 10) pe_int (fun _ _ => rfl)) (nomark _)) (pw_or1 (pt_cmpR (r := rNeP K) (op_neP hu64) (pe_call G_common_end (hr.mono (by decide)) (by rfl) T.g_common_end T.F_common_end.kp T.b_common_end .nil pass0 (pa_cons (pv 3) (pa_cons (pv 7) (pa_cons (pv 8) pa_nil)))) (pe_ix (r := rIxL K) ix_list (pv 10) pe_int (fun _ _ => rfl)) (nomark _))))) (pss_one (ps_ret pe_bl)) pss_nil)))))))))))))))
 (pss_one (ps_ret pe_bl))), ?_⟩
    -- the cells
    refine ⟨_, rfl, a, ns, 0, rfl, hS, fun z0 => ?_⟩
    refine ⟨sl2 (by show 1 ≤ 1000000; decide), fun p1 hp1 => ?_⟩
    have sm1 := same_new hp1 (o := .lst [V.int z0])
    refine ⟨_, rfl, _, rfl, _, rfl, a, _, rfl, sm1.seq hS, fun p2 hp2 => ?_⟩
    obtain ⟨zs, hzs, hzl, _⟩ := cut_ints ns (some 1) (some 3)
    rw [hzs]
    have sm2 := same_new hp2 (o := .lst (zs.map V.int))
    refine ⟨p1, p2, _, _, rfl, rfl, sm2 _ _ upd_same, upd_same, by rw [List.length_map]; exact sl2 (by show 1 + zs.length ≤ 1000000; omega), fun p3 hp3 => ?_⟩
    have h3 : (upd (upd (upd H p1 (.lst [V.int z0])) p2 (.lst (zs.map V.int))) p3 (.lst ([V.int z0] ++ zs.map V.int))) p3 = some (.lst ((z0 :: zs).map V.int)) := upd_same
    have hT1 : Tabs (tabT A) (upd (upd (upd H p1 (.lst [V.int z0])) p2 (.lst (zs.map V.int))) p3 (.lst ([V.int z0] ++ zs.map V.int))) := tabs_same (tabs_same (tabs_same hT sm1) sm2) (same_new hp3)
    generalize (upd (upd (upd H p1 (.lst [V.int z0])) p2 (.lst (zs.map V.int))) p3 (.lst ([V.int z0] ++ zs.map V.int))) = H1 at h3 hT1 ⊢
    clear hT sm1 sm2 hp1 hp2 hp3 hzs
    refine ⟨p3, rfl, ⟨_, SqL.of h3⟩, for_list (K := K) (a := p3) (xs := (z0 :: zs).map V.int) (fun i σ' H' => ∃ x1 x2 x3 x4 x5 x6 x7 x8 x9 x10 : Option V, σ' = [some (.ref a), x1, x2, x3, x4, x5, x6, x7, x8, x9, x10, none, none] ∧ ExtN H1 H' ∧ Tabs (tabT A) H') ?_ ?_ ?_ ?_⟩
    · exact ⟨_, _, _, _, _, _, _, _, _, _, rfl, extN_same (Same.refl _), hT1⟩
    · rintro i σ' H2 _ ⟨_, _, _, _, _, _, _, _, _, _, rfl, e, _⟩
      exact SqL.of (e.lst h3)
    · rintro i x σ' H2 hi ⟨x1, x2, x3, x4, x5, x6, x7, x8, x9, x10, rfl, e12, T2⟩
      obtain ⟨cell, hcell, rfl⟩ := map_at hi
      refine ⟨_, rfl, cell, rfl, fun s H3 hs sm3 hw3 => ?_⟩
      refine ⟨_, rfl, s, 0, rfl, hw3, by decide, fun gt g nl kn H4 names ms qs wt kvs bt4 w4 gt0 hgt GK => ?_⟩
      obtain ⟨G, gw, hnl, nne, hn6, hnm, hkn, hkw⟩ := GK
      have c4 : Cell71 (tabT A) A.c_Grammar H3 H4 s g nl kn names ms qs wt kvs 3000 := ⟨butX_but bt4, tabs_well (tabs_same T2 sm3) hw3 bt4, w4.mono (by omega), G, hnl⟩
      refine ⟨gt, _, rfl, SqT.of hgt, rfl, _, _, rfl, _, _, rfl, _, _, rfl, rfl, ?_⟩
      clear bt4 w4 hgt gt0 G hnl hw3
      -- four rows
      refine ⟨(4 : Int), rfl, by decide, by decide, fun D hD => lc_range (fun j H' => ∃ (as : List Addr) (rows : List (List Str)), But s H4 H' ∧ WellAt H' s (4000 + 20 * j) ∧ H' D = some (.lst (as.map V.ref)) ∧ Paired (fun b (r : List Str) => b ≠ D ∧ H' b = some (.lst (r.map V.str))) as rows ∧ rows.length = j ∧ ∀ r ∈ rows, (∀ x ∈ r, x ∈ names) ∧ wsum wt r ≤ 4) ?_ ?_ ?_⟩
      · exact ⟨[], [], but_of_same (same_new hD), (c4.w.same (same_new hD)).mono (by omega), upd_same, .nil, rfl, fun r hr => (nomatch hr)⟩
      · rintro j H5 hj ⟨as, rows, bt5, w5, h5, hp5, hrl, hrows⟩
        have hj4 : j < 4 := hj
        have hnl5 := bt5 _ _ (c4.w.ne_strs c4.nm) c4.nm
        have hkn5 := bt5 _ _ (c4.w.ne_dk hkn) hkn
        refine ⟨rfl, tyes (iteT ?_)⟩
        refine ⟨_, rfl, _, rfl, _, rfl, s, nl, kn, 4, _, names, wt, kvs, rfl, w5, by omega, hnl5, nne, hn6, hkn5, hkw, fun rc H6 row bt6 w6 rc0 hrc hrs hrw hrl4 => ?_⟩
        refine ⟨_, rfl, rc, _, rfl, SqL.of hrc, fun e he => ?_⟩
        rw [show (some (2 : Int)) = some ((2 : Nat) : Int) from rfl, cut_lt, ← List.map_take]
        have sme := same_new he (o := .lst ((row.take 2).map V.str))
        have hee : (upd H6 e (.lst ((row.take 2).map V.str))) e = some (.lst ((row.take 2).map V.str)) := upd_same
        have hDs : D ≠ s := w5.ne_refs h5
        have h6 := sme _ _ (bt6 _ _ hDs h5)
        have hp6 : Paired (fun b (r : List Str) => b ≠ D ∧ (upd H6 e (.lst ((row.take 2).map V.str))) b = some (.lst (r.map V.str))) as rows := Paired.mapP hp5 fun _ _ ⟨n1, k⟩ => ⟨n1, sme _ _ (bt6 _ _ (w5.ne_strs k) k)⟩
        have neD : e ≠ D := fun z => by
          rw [z, bt6 _ _ hDs h5] at he
          cases he
        have w7 := w6.same sme
        have bt7 := (bt5.trans bt6).same sme
        generalize (upd H6 e (.lst ((row.take 2).map V.str))) = H7 at hee h6 hp6 w7 bt7 ⊢
        have hal := paired_len hp6
        refine ⟨_, h6, by rw [List.length_map]; exact sl1 (by omega), as ++ [e], rows ++ [row.take 2], bt7.cell hD _, (w7.cell c4.w hD).mono (by omega), by rw [upd_same, List.map_append]; rfl, paired_app ⟨neD, by rw [upd_ne neD]; exact hee⟩ (Paired.mapP hp6 fun _ _ ⟨n1, k⟩ => ⟨n1, by rw [upd_ne n1]; exact k⟩), by rw [List.length_append, hrl]; rfl, fun r hr => ?_⟩
        rcases List.mem_append.mp hr with hr | hr
        · exact hrows r hr
        · rw [List.mem_singleton.mp hr]
          refine ⟨fun x hx => hrs x (List.mem_of_mem_take hx), ?_⟩
          have h9 := wsum_app wt (row.take 2) (row.drop 2)
          rw [List.take_append_drop] at h9
          omega
      rintro H5 ⟨as, rows, bt5, w5, h5, hp5, hrl, hrows⟩
      obtain ⟨r0, r1, r2, r3, rfl⟩ : ∃ r0 r1 r2 r3, rows = [r0, r1, r2, r3] := by
        match rows, hrl with
        | [a, b, c, d], _ => exact ⟨a, b, c, d, rfl⟩
      have R5 : RowsAt H5 D [r0, r1, r2, r3] := ⟨as, h5, Paired.mapP hp5 fun _ _ h => h.2⟩
      have g0 := hrows r0 (by simp)
      have g1 := hrows r1 (by simp)
      have g2 := hrows r2 (by simp)
      have g3 := hrows r3 (by simp)
      have c5 := c4.but bt5 (w5.mono (m := 5000) (by omega))
      clear hrows hp5 h5 w5 bt5 hD c4 hkn
      have hl4 : ∀ {r : List Str}, (∀ x ∈ r, x ∈ names) → r.length ≤ wsum wt r := fun h => gw.len fun x hx => hnm x (h x hx)
      have l0 := hl4 g0.1
      have l1 := hl4 g1.1
      have l2 := hl4 g2.1
      have l3 := hl4 g3.1
      -- one
      obtain ⟨ts, t0, hts, ha0, ht0⟩ := R5.get 0 rfl
      obtain ⟨ts2, t2, hts2, ha2, ht2⟩ := R5.get 2 rfl
      obtain ⟨ts1, t1, hts1, ha1, ht1⟩ := R5.get 1 rfl
      refine ⟨_, rfl, D, _, _, _, rfl, rfl, SqL.of hts, ha0, _, rfl, D, _, _, _, rfl, rfl, SqL.of hts2, ha2, t0, t2, _, _, rfl, rfl, ht0, ht2, by rw [List.length_map, List.length_map]; exact sl2 (by omega), fun e he => ?_⟩
      have sme := same_new he (o := .lst (r0.map V.str ++ r2.map V.str))
      have hee : (upd H5 e (.lst (r0.map V.str ++ r2.map V.str))) e = some (.lst ((r0 ++ r2).map V.str)) := by rw [upd_same, List.map_append]
      refine ⟨_, rfl, D, _, _, _, rfl, rfl, SqL.of (sme _ _ hts1), ha1, e, t1, _, _, rfl, rfl, hee, sme _ _ ht1, by rw [List.length_map, List.length_map, List.length_append]; exact sl2 (by omega), fun oa hoa => ?_⟩
      have smo := same_new hoa (o := .lst ((r0 ++ r2).map V.str ++ r1.map V.str))
      have hoa6 : (upd (upd H5 e (.lst (r0.map V.str ++ r2.map V.str))) oa (.lst ((r0 ++ r2).map V.str ++ r1.map V.str))) oa = some (.lst ((r0 ++ r2 ++ r1).map V.str)) := by rw [upd_same, List.map_append (l₁ := r0 ++ r2)]
      have sm6 := sme.trans smo
      generalize (upd (upd H5 e (.lst (r0.map V.str ++ r2.map V.str))) oa (.lst ((r0 ++ r2).map V.str ++ r1.map V.str))) = H6 at hoa6 sm6 ⊢
      have c6 := c5.same sm6
      have R6 := R5.same sm6
      obtain ⟨one, hone⟩ : ∃ r, r = r0 ++ r2 ++ r1 := ⟨_, rfl⟩
      rw [← hone] at hoa6
      have hom : ∀ x ∈ one, x ∈ ms := fun x hx => by
        rw [hone] at hx
        rcases List.mem_append.mp hx with hx | hx
        · rcases List.mem_append.mp hx with hx | hx
          · exact hnm x (g0.1 x hx)
          · exact hnm x (g2.1 x hx)
        · exact hnm x (g1.1 x hx)
      have how : wsum wt one ≤ 24 := by rw [hone, wsum_app, wsum_app]; omega
      clear hone hee sme smo he hoa hts hts1 hts2 ha0 ha1 ha2 ht0 ht1 ht2 c5 R5
      -- other
      obtain ⟨ts, t0, hts, ha0, ht0⟩ := R6.get 0 rfl
      refine ⟨_, rfl, D, _, _, _, rfl, rfl, SqL.of hts, ha0, Nat.zero_le _, fun e he => ?_⟩
      have sme := same_new he (o := .lst [])
      have hee : (upd H6 e (.lst [])) e = some (.lst (([] : List Str).map V.str)) := upd_same
      have c7 := c6.same sme
      have R7 := R6.same sme
      have ht07 := sme _ _ ht0
      have hoa7 := sme _ _ hoa6
      generalize (upd H6 e (.lst [])) = H7 at hee c7 R7 ht07 hoa7 ⊢
      refine ⟨sl2 (by show 2 ≤ 1000000; decide), fun l hl => ?_⟩
      have sml := same_new hl (o := .lst [.ref t0, .ref e])
      have hl8 : (upd H7 l (.lst [.ref t0, .ref e])) l = some (.lst ([t0, e].map V.ref)) := upd_same
      have c8 := c7.same sml
      have R8 := R7.same sml
      have ht08 := sml _ _ ht07
      have he8 := sml _ _ hee
      have hoa8 := sml _ _ hoa7
      generalize (upd H7 l (.lst [.ref t0, .ref e])) = H8 at hl8 c8 R8 ht08 he8 hoa8 ⊢
      refine ⟨_, rfl, s, _, _, rfl, c8.w, by decide, by decide, by decide, fun j H9 j0 j1 bt9 w9 => ?_⟩
      have hl9 := bt9 _ _ (c8.w.ne_refs hl8) hl8
      have ht09 := bt9 _ _ (c8.w.ne_strs ht08) ht08
      have he9 := bt9 _ _ (c8.w.ne_strs he8) he8
      have hoa9 := bt9 _ _ (c8.w.ne_strs hoa8) hoa8
      have c9 := c8.but bt9 w9
      have R9 := R8.butW c8.w bt9
      obtain ⟨v, hv, hvm⟩ := atI_some (xs := [t0, e].map V.ref) (i := j / 2) (by omega) (by show j / 2 < 2; omega)
      obtain ⟨pa, p0, rfl, hpa, hpm, hpw⟩ : ∃ (m : Addr) (p : List Str), v = .ref m ∧ H9 m = some (.lst (p.map V.str)) ∧ (∀ x ∈ p, x ∈ names) ∧ wsum wt p ≤ 4 := by
        simp only [List.map_cons, List.map_nil, List.mem_cons, List.not_mem_nil, or_false] at hvm
        rcases hvm with rfl | rfl
        · exact ⟨t0, r0, rfl, ht09, g0.1, g0.2⟩
        · exact ⟨e, [], rfl, he9, fun x hx => (nomatch hx), Nat.zero_le _⟩
      have lp0 := hl4 hpm
      obtain ⟨ts3, t3, hts3, ha3, ht3⟩ := R9.get 3 rfl
      refine ⟨_, _, rfl, rfl, ⟨by decide, by decide⟩, l, _, _, _, rfl, rfl, SqL.of hl9, hv, _, rfl, D, _, _, _, rfl, rfl, SqL.of hts3, ha3, pa, t3, _, _, rfl, rfl, hpa, ht3, by rw [List.length_map, List.length_map]; exact sl2 (by omega), fun f1 hf1 => ?_⟩
      have smf := same_new hf1 (o := .lst (p0.map V.str ++ r3.map V.str))
      have hf10 : (upd H9 f1 (.lst (p0.map V.str ++ r3.map V.str))) f1 = some (.lst ((p0 ++ r3).map V.str)) := by rw [upd_same, List.map_append]
      have c10 := c9.same smf
      have R10 := R9.same smf
      have hoa10 := smf _ _ hoa9
      generalize (upd H9 f1 (.lst (p0.map V.str ++ r3.map V.str))) = H10 at hf10 c10 R10 hoa10 ⊢
      clear smf hf1 hv hvm hl9 ht09 he9 hoa9 bt9 w9 hl8 ht08 he8 hoa8 c8 R8 sml hl hee c7 R7 ht07 hoa7 sme he hts ha0 ht0 hts3 ha3 ht3 hpa c9 R9 c6 R6 hoa6
      obtain ⟨ts, t0, hts, ha0, ht0⟩ := R10.get 1 rfl
      refine ⟨_, rfl, D, _, _, _, rfl, rfl, SqL.of hts, ha0, Nat.zero_le _, fun e he => ?_⟩
      have sme := same_new he (o := .lst [])
      have hee : (upd H10 e (.lst [])) e = some (.lst (([] : List Str).map V.str)) := upd_same
      have c11 := c10.same sme
      have ht011 := sme _ _ ht0
      have hoa11 := sme _ _ hoa10
      have hf11 := sme _ _ hf10
      generalize (upd H10 e (.lst [])) = H11 at hee c11 ht011 hoa11 hf11 ⊢
      refine ⟨sl2 (by show 2 ≤ 1000000; decide), fun l hl => ?_⟩
      have sml := same_new hl (o := .lst [.ref t0, .ref e])
      have hl12 : (upd H11 l (.lst [.ref t0, .ref e])) l = some (.lst ([t0, e].map V.ref)) := upd_same
      have c12 := c11.same sml
      have ht012 := sml _ _ ht011
      have he12 := sml _ _ hee
      have hoa12 := sml _ _ hoa11
      have hf12 := sml _ _ hf11
      generalize (upd H11 l (.lst [.ref t0, .ref e])) = H12 at hl12 c12 ht012 he12 hoa12 hf12 ⊢
      refine ⟨_, rfl, s, _, _, rfl, c12.w, by decide, by decide, by decide, fun j H13 j0 j1 bt13 w13 => ?_⟩
      have hl13 := bt13 _ _ (c12.w.ne_refs hl12) hl12
      have ht013 := bt13 _ _ (c12.w.ne_strs ht012) ht012
      have he13 := bt13 _ _ (c12.w.ne_strs he12) he12
      have hoa13 := bt13 _ _ (c12.w.ne_strs hoa12) hoa12
      have hf13 := bt13 _ _ (c12.w.ne_strs hf12) hf12
      have c13 := c12.but bt13 w13
      obtain ⟨v, hv, hvm⟩ := atI_some (xs := [t0, e].map V.ref) (i := j / 2) (by omega) (by show j / 2 < 2; omega)
      obtain ⟨pb, p1, rfl, hpb, hpm1, hpw1⟩ : ∃ (m : Addr) (p : List Str), v = .ref m ∧ H13 m = some (.lst (p.map V.str)) ∧ (∀ x ∈ p, x ∈ names) ∧ wsum wt p ≤ 4 := by
        simp only [List.map_cons, List.map_nil, List.mem_cons, List.not_mem_nil, or_false] at hvm
        rcases hvm with rfl | rfl
        · exact ⟨t0, r1, rfl, ht013, g1.1, g1.2⟩
        · exact ⟨e, [], rfl, he13, fun x hx => (nomatch hx), Nat.zero_le _⟩
      have lp1 := hl4 hpm1
      refine ⟨_, _, rfl, rfl, ⟨by decide, by decide⟩, l, _, _, _, rfl, rfl, SqL.of hl13, hv, f1, pb, _, _, rfl, rfl, hf13, hpb, by rw [List.length_map, List.length_map, List.length_append]; exact sl2 (by omega), fun ob hob => ?_⟩
      have smo := same_new hob (o := .lst ((p0 ++ r3).map V.str ++ p1.map V.str))
      have hob14 : (upd H13 ob (.lst ((p0 ++ r3).map V.str ++ p1.map V.str))) ob = some (.lst ((p0 ++ r3 ++ p1).map V.str)) := by rw [upd_same, List.map_append (l₁ := p0 ++ r3)]
      have c14 := c13.same smo
      have hoa14 := smo _ _ hoa13
      generalize (upd H13 ob (.lst ((p0 ++ r3).map V.str ++ p1.map V.str))) = H14 at hob14 c14 hoa14 ⊢
      obtain ⟨other, hother⟩ : ∃ r, r = p0 ++ r3 ++ p1 := ⟨_, rfl⟩
      rw [← hother] at hob14
      have htm : ∀ x ∈ other, x ∈ ms := fun x hx => by
        rw [hother] at hx
        rcases List.mem_append.mp hx with hx | hx
        · rcases List.mem_append.mp hx with hx | hx
          · exact hnm x (hpm x hx)
          · exact hnm x (g3.1 x hx)
        · exact hnm x (hpm1 x hx)
      have htw : wsum wt other ≤ 24 := by rw [hother, wsum_app, wsum_app]; omega
      clear hother smo hob hv hvm hl13 ht013 he13 hoa13 hf13 bt13 w13 hl12 ht012 he12 hoa12 hf12 c12 sml hl hee c11 ht011 hoa11 hf11 sme he hts ha0 ht0 hpb c13 c10 R10 hoa10 hf10 lp0 lp1 l0 l1 l2 l3 g0 g1 g2 g3 hpm hpm1 hpw hpw1
      -- the outs
      have hl1 := (outF_len gw false hom).1
      have hl2 := (outF_len gw false htm).1
      obtain ⟨mo, hmo⟩ : ∃ f : List Str → List Str, f = fun r => outK false (finB false qs wt (ordW ms wt)) r := ⟨_, rfl⟩
      obtain ⟨ps, hps⟩ : ∃ ps : List (Addr × List Str), ps = [(oa, one), (ob, other)] := ⟨_, rfl⟩
      refine ⟨_, rfl, _, rfl, sl2 (by show 2 ≤ 1000000; decide), fun tp htp => ?_⟩
      have smt := same_new htp (o := .tup [.ref oa, .ref ob])
      have htp15 : (upd H14 tp (.tup [.ref oa, .ref ob])) tp = some (.tup (ps.map fun e => V.ref e.1)) := by rw [upd_same, hps]; rfl
      have c15 := c14.same smt
      have hoa15 := smt _ _ hoa14
      have hob15 := smt _ _ hob14
      generalize (upd H14 tp (.tup [.ref oa, .ref ob])) = H15 at htp15 c15 hoa15 hob15 ⊢
      have hall : ∀ e ∈ ps, H15 e.1 = some (.lst (e.2.map V.str)) ∧ (∀ x ∈ e.2, x ∈ ms) ∧ wsum wt e.2 ≤ 24 := fun e he => by
        rw [hps] at he
        rcases List.mem_cons.mp he with rfl | he
        · exact ⟨hoa15, hom, how⟩
        · rw [List.mem_singleton.mp he]
          exact ⟨hob15, htm, htw⟩
      clear smt htp c14 hoa14 hob14
      refine ⟨tp, rfl, ⟨_, SqT.of htp15⟩, fun D2 hD2 => lc_tup (K := K) (a := tp) (xs := ps.map fun e => V.ref e.1) (fun i H' => ExtN H15 H' ∧ Tabs (tabT A) H' ∧ ∃ us : List Addr, H' D2 = some (.lst (us.map V.ref)) ∧ Paired (fun u (r : List Str) => u ≠ D2 ∧ H' u = some (.lst (r.map V.str))) us ((ps.take i).map fun e => mo e.2)) ?_ ?_ ?_ ?_⟩
      · exact ⟨extN_same (same_new hD2), tabs_same c15.tb (same_new hD2), [], upd_same, .nil⟩
      · rintro i H' _ ⟨e, _⟩
        exact SqT.of (e.tup htp15)
      · rintro i x H16 hi ⟨e16, T16, us, hus, hup⟩
        obtain ⟨e, he, rfl⟩ := map_at hi
        obtain ⟨k1, k2, k3⟩ := hall e (List.mem_of_getElem? he)
        refine ⟨rfl, tyes (iteT ?_)⟩
        refine ⟨_, rfl, _, rfl, false, g, e.1, ms, qs, wt, e.2, rfl, T16, c15.gr.ext e16, gw, e16.lst k1, k2, by show _ ≤ 24; omega, fun u H17 e17 T17 u0 hu17 => ?_⟩
        have hus17 := e17.lst hus
        have nu : u ≠ D2 := fun z => by
          obtain ⟨ps, h⟩ := u0 _ (z ▸ hus)
          cases h
        have hul : us.length ≤ 2 := by
          rw [paired_len hup, List.length_map, List.length_take, hps]
          exact Nat.min_le_right _ _
        have fD : FreeN H15 D2 := fun o ho => by rw [hD2] at ho; cases ho
        refine ⟨_, hus17, by rw [List.length_map]; exact sl1 (by omega), (LamX.ExtN.trans e16 e17).mut fD _, tabs_lst T17 hus17 _, us ++ [u], by rw [upd_same, List.map_append]; rfl, ?_⟩
        rw [take_snoc he, List.map_append]
        exact paired_app ⟨nu, by rw [upd_ne nu, hmo]; exact hu17⟩ (Paired.mapP hup fun _ _ ⟨n1, k⟩ => ⟨n1, by rw [upd_ne n1]; exact e17.lst k⟩)
      rintro H16 ⟨e16, T16, us, hus, hup⟩
      rw [List.length_map, List.take_length, hps] at hup
      have RO : RowsAt H16 D2 [mo one, mo other] := ⟨us, hus, Paired.mapP hup fun _ _ h => h.2⟩
      have c16 := c15.ext e16 T16
      have hoa16 := e16.lst hoa15
      have hob16 := e16.lst hob15
      have ho1 : (mo one).length ≤ 24 := by rw [hmo]; exact Nat.le_trans hl1 how
      have ho2 : (mo other).length ≤ 24 := by rw [hmo]; exact Nat.le_trans hl2 htw
      clear hus hup hall hps e16 T16 htp15 c15 hoa15 hob15 hD2
      -- due
      obtain ⟨ts, u0, hts, ha0, hu0⟩ := RO.get 0 rfl
      obtain ⟨ts1, u1, hts1, ha1, hu1⟩ := RO.get 1 rfl
      refine ⟨_, rfl, D2, _, _, _, rfl, rfl, SqL.of hts, ha0, _, rfl, D2, _, _, _, rfl, rfl, SqL.of hts1, ha1, u0, u1, mo one, mo other, rfl, hu0, hu1, by omega, by omega, fun d0 H17 sm17 _ hd0 => ?_⟩
      refine ⟨_, rfl, D2, _, _, _, rfl, rfl, SqL.of (sm17 _ _ hts), ha0, u0, _, rfl, SqL.of (sm17 _ _ hu0), fun v0 hv0 => ?_⟩
      rw [← List.map_reverse]
      have smv0 := same_new hv0 (o := .lst ((mo one).reverse.map V.str))
      refine ⟨_, rfl, D2, _, _, _, rfl, rfl, SqL.of (smv0 _ _ (sm17 _ _ hts1)), ha1, u1, _, rfl, SqL.of (smv0 _ _ (sm17 _ _ hu1)), fun v1 hv1 => ?_⟩
      rw [← List.map_reverse]
      have smv1 := same_new hv1 (o := .lst ((mo other).reverse.map V.str))
      refine ⟨v0, v1, (mo one).reverse, (mo other).reverse, rfl, smv1 _ _ upd_same, upd_same, by rw [List.length_reverse]; omega, by rw [List.length_reverse]; omega, fun d1 H18 sm18 _ hd1 => ?_⟩
      have sm1718 := (smv0.trans smv1).trans sm18
      refine ⟨d1, _, rfl, SqL.of hd1, fun d2 hd2 => ?_⟩
      rw [← List.map_reverse, endN_rev]
      have smd2 := same_new hd2 (o := .lst ((endN (mo one) (mo other)).map V.str))
      have hd2a : (upd H18 d2 (.lst ((endN (mo one) (mo other)).map V.str))) d2 = some (.lst ((endN (mo one) (mo other)).map V.str)) := upd_same
      have hd0a := smd2 _ _ (sm1718 _ _ hd0)
      have sm1619 := (sm17.trans sm1718).trans smd2
      generalize (upd H18 d2 (.lst ((endN (mo one) (mo other)).map V.str))) = H19 at hd2a hd0a sm1619 ⊢
      refine ⟨sl2 (by show 2 ≤ 1000000; decide), fun du hdu => ?_⟩
      have smdu := same_new hdu (o := .lst [.ref d0, .ref d2])
      have RD : RowsAt (upd H19 du (.lst [.ref d0, .ref d2])) du [beginN (mo one) (mo other), endN (mo one) (mo other)] := ⟨[d0, d2], upd_same, .cons (smdu _ _ hd0a) (.cons (smdu _ _ hd2a) .nil)⟩
      have sm1620 := sm1619.trans smdu
      have S0 : St68 (tabT A) A.c_Grammar H3 (upd H19 du (.lst [.ref d0, .ref d2])) s g nl kn oa ob D2 du names ms qs wt kvs _ one other [mo one, mo other] [beginN (mo one) (mo other), endN (mo one) (mo other)] := ⟨c16.same sm1620, sm1620 _ _ hoa16, sm1620 _ _ hob16, RO.same sm1620, RD⟩
      generalize (upd H19 du (.lst [.ref d0, .ref d2])) = H20 at S0 ⊢
      clear RD sm1620 smdu hdu sm1619 hd0a hd2a smd2 hd2 sm1718 sm18 hd1 smv1 hv1 smv0 hv0 sm17 hd0 hts hts1 ha0 ha1 hu0 hu1 c16 hoa16 hob16 RO
      refine ⟨_, rfl, _, rfl, _, rfl, g, oa, ob, ms, qs, wt, one, other, rfl, S0.c.tb, S0.c.gr, gw, S0.o1, S0.o2, hom, htm, how, htw, fun q1 J1 e1 T1 f1 hq1 => ?_⟩
      have S1 := S0.ext e1 T1
      have hq1 : J1 q1 = some (.lst ((beginN (mo one) (mo other)).map V.str)) := by
        rw [hmo]
        skip
        exact hq1
      obtain ⟨ts1, t1, hts1, hat1, ht1⟩ := S1.dw.get 0 rfl
      refine ⟨_, rfl, du, _, _, _, rfl, rfl, SqL.of hts1, hat1, eSs _, eSs _, dp_Ss hq1, dp_Ss ht1, Nat.le_trans (dep_Ss _) (by decide), _, rfl, ?_⟩
      rw [enc_Ss, decide_eq_true rfl]
      refine iteF ?_
      clear hts1 hat1 ht1 hq1 f1
      refine ⟨_, rfl, _, rfl, _, rfl, g, ob, oa, ms, qs, wt, other, one, rfl, S1.c.tb, S1.c.gr, gw, S1.o2, S1.o1, htm, hom, htw, how, fun q2 J2 e2 T2 f2 hq2 => ?_⟩
      have S2 := S1.ext e2 T2
      have hq2 : J2 q2 = some (.lst ((beginN (mo one) (mo other)).map V.str)) := by
        rw [hmo]
        rw [beginN_comm] at hq2
        exact hq2
      obtain ⟨ts2, t2, hts2, hat2, ht2⟩ := S2.dw.get 0 rfl
      refine ⟨_, rfl, du, _, _, _, rfl, rfl, SqL.of hts2, hat2, eSs _, eSs _, dp_Ss hq2, dp_Ss ht2, Nat.le_trans (dep_Ss _) (by decide), _, rfl, ?_⟩
      rw [enc_Ss, decide_eq_true rfl]
      refine iteF ?_
      clear hts2 hat2 ht2 hq2 f2
      refine ⟨_, rfl, _, rfl, _, rfl, g, oa, ob, ms, qs, wt, one, other, rfl, S2.c.tb, S2.c.gr, gw, S2.o1, S2.o2, hom, htm, how, htw, fun q3 J3 e3 T3 f3 hq3 => ?_⟩
      have S3 := S2.ext e3 T3
      have hq3 : J3 q3 = some (.lst ((endN (mo one) (mo other)).map V.str)) := by
        rw [hmo]
        skip
        exact hq3
      obtain ⟨ts3, t3, hts3, hat3, ht3⟩ := S3.dw.get 1 rfl
      refine ⟨_, rfl, du, _, _, _, rfl, rfl, SqL.of hts3, hat3, eSs _, eSs _, dp_Ss hq3, dp_Ss ht3, Nat.le_trans (dep_Ss _) (by decide), _, rfl, ?_⟩
      rw [enc_Ss, decide_eq_true rfl]
      refine iteF ?_
      clear hts3 hat3 ht3 hq3 f3
      refine ⟨_, rfl, _, rfl, _, rfl, g, ob, oa, ms, qs, wt, other, one, rfl, S3.c.tb, S3.c.gr, gw, S3.o2, S3.o1, htm, hom, htw, how, fun q4 J4 e4 T4 f4 hq4 => ?_⟩
      have S4 := S3.ext e4 T4
      have hq4 : J4 q4 = some (.lst ((endN (mo one) (mo other)).map V.str)) := by
        rw [hmo]
        rw [endN_comm] at hq4
        exact hq4
      obtain ⟨ts4, t4, hts4, hat4, ht4⟩ := S4.dw.get 1 rfl
      refine ⟨_, rfl, du, _, _, _, rfl, rfl, SqL.of hts4, hat4, eSs _, eSs _, dp_Ss hq4, dp_Ss ht4, Nat.le_trans (dep_Ss _) (by decide), _, rfl, ?_⟩
      rw [enc_Ss, decide_eq_true rfl]
      refine iteF ?_
      clear hts4 hat4 ht4 hq4 f4
      refine ⟨_, rfl, _, rfl, _, rfl, g, oa, oa, ms, qs, wt, one, one, rfl, S4.c.tb, S4.c.gr, gw, S4.o1, S4.o1, hom, hom, how, how, fun q5 J5 e5 T5 f5 hq5 => ?_⟩
      have S5 := S4.ext e5 T5
      have hq5 : J5 q5 = some (.lst ((mo one).map V.str)) := by
        rw [hmo]
        rw [beginN_self] at hq5
        exact hq5
      obtain ⟨ts5, t5, hts5, hat5, ht5⟩ := S5.ou.get 0 rfl
      refine ⟨_, rfl, D2, _, _, _, rfl, rfl, SqL.of hts5, hat5, eSs _, eSs _, dp_Ss hq5, dp_Ss ht5, Nat.le_trans (dep_Ss _) (by decide), _, rfl, ?_⟩
      rw [enc_Ss, decide_eq_true rfl]
      refine iteF ?_
      clear hts5 hat5 ht5 hq5 f5
      refine ⟨_, rfl, _, rfl, _, rfl, g, ob, ob, ms, qs, wt, other, other, rfl, S5.c.tb, S5.c.gr, gw, S5.o2, S5.o2, htm, htm, htw, htw, fun q6 J6 e6 T6 f6 hq6 => ?_⟩
      have S6 := S5.ext e6 T6
      have hq6 : J6 q6 = some (.lst ((mo other).map V.str)) := by
        rw [hmo]
        rw [endN_self] at hq6
        exact hq6
      obtain ⟨ts6, t6, hts6, hat6, ht6⟩ := S6.ou.get 1 rfl
      refine ⟨_, rfl, D2, _, _, _, rfl, rfl, SqL.of hts6, hat6, eSs _, eSs _, dp_Ss hq6, dp_Ss ht6, Nat.le_trans (dep_Ss _) (by decide), _, rfl, ?_⟩
      rw [enc_Ss, decide_eq_true rfl]
      refine iteF ?_
      clear hts6 hat6 ht6 hq6 f6
      obtain ⟨n0, hn0⟩ : ∃ n0, names[0]? = some n0 := ⟨_, List.getElem?_eq_getElem (List.length_pos_iff.mpr nne)⟩
      refine ⟨_, rfl, _, rfl, _, rfl, g, oa, ob, ms, qs, wt, one, other, rfl, S6.c.tb, S6.c.gr, gw, S6.o1, S6.o2, hom, htm, how, htw, fun q7 J7 e7 T7 f7 hq7 => ?_⟩
      have S7' := S6.ext e7 T7
      have hql7 : (beginN (outK false (finB false qs wt (ordW ms wt)) one) (outK false (finB false qs wt (ordW ms wt)) other)).length ≤ 24 := Nat.le_trans (beginN_len _ _) (Nat.le_trans hl1 how)
      refine ⟨.inl ⟨rfl, _, SqL.of hq7⟩, _, rfl, nl, _, _, _, rfl, rfl, SqL.of S7'.c.nm, atI_nat (j := 0) (by rw [List.getElem?_map, hn0]; rfl), q7, _, _, rfl, rfl, hq7, by rw [List.length_map]; exact sl1 (by omega), ?_⟩
      have em7 := e7.mut f7 (.lst ((beginN (outK false (finB false qs wt (ordW ms wt)) one) (outK false (finB false qs wt (ordW ms wt)) other)).map V.str ++ [V.str n0]))
      have S7 := S6.ext em7 (tabs_lst T7 hq7 _)
      generalize (upd J7 q7 (.lst ((beginN (outK false (finB false qs wt (ordW ms wt)) one) (outK false (finB false qs wt (ordW ms wt)) other)).map V.str ++ [V.str n0]))) = J7b at S7 ⊢
      clear S7' hq7 em7 f7 T7 e7 hql7
      refine ⟨_, rfl, _, rfl, _, rfl, g, oa, ob, ms, qs, wt, one, other, rfl, S7.c.tb, S7.c.gr, gw, S7.o1, S7.o2, hom, htm, how, htw, fun q8 J8 e8 T8 f8 hq8 => ?_⟩
      have S8' := S7.ext e8 T8
      have hql8 : (endN (outK false (finB false qs wt (ordW ms wt)) one) (outK false (finB false qs wt (ordW ms wt)) other)).length ≤ 24 := Nat.le_trans (endN_len _ _) (Nat.le_trans hl1 how)
      refine ⟨.inl ⟨rfl, _, SqL.of hq8⟩, _, rfl, nl, _, _, _, rfl, rfl, SqL.of S8'.c.nm, atI_nat (j := 0) (by rw [List.getElem?_map, hn0]; rfl), q8, _, _, rfl, rfl, hq8, by rw [List.length_map]; exact sl1 (by omega), ?_⟩
      have em8 := e8.mut f8 (.lst ((endN (outK false (finB false qs wt (ordW ms wt)) one) (outK false (finB false qs wt (ordW ms wt)) other)).map V.str ++ [V.str n0]))
      have S8 := S7.ext em8 (tabs_lst T8 hq8 _)
      generalize (upd J8 q8 (.lst ((endN (outK false (finB false qs wt (ordW ms wt)) one) (outK false (finB false qs wt (ordW ms wt)) other)).map V.str ++ [V.str n0]))) = J8b at S8 ⊢
      clear S8' hq8 em8 f8 T8 e8 hql8
      refine ⟨_, rfl, _, rfl, _, rfl, g, oa, ob, ms, qs, wt, one, other, rfl, S8.c.tb, S8.c.gr, gw, S8.o1, S8.o2, hom, htm, how, htw, fun q9 J9 e9 T9 f9 hq9 => ?_⟩
      have S9 := S8.ext e9 T9
      have hq9 : J9 q9 = some (.lst ((beginN (mo one) (mo other)).map V.str)) := by
        rw [hmo]
        skip
        exact hq9
      obtain ⟨ts9, t9, hts9, hat9, ht9⟩ := S9.dw.get 0 rfl
      refine ⟨_, rfl, du, _, _, _, rfl, rfl, SqL.of hts9, hat9, eSs _, eSs _, dp_Ss hq9, dp_Ss ht9, Nat.le_trans (dep_Ss _) (by decide), _, rfl, ?_⟩
      rw [enc_Ss, decide_eq_true rfl]
      refine iteF ?_
      clear hts9 hat9 ht9 hq9 f9
      refine ⟨_, rfl, _, rfl, _, rfl, g, oa, ob, ms, qs, wt, one, other, rfl, S9.c.tb, S9.c.gr, gw, S9.o1, S9.o2, hom, htm, how, htw, fun q10 J10 e10 T10 f10 hq10 => ?_⟩
      have S10 := S9.ext e10 T10
      have hq10 : J10 q10 = some (.lst ((endN (mo one) (mo other)).map V.str)) := by
        rw [hmo]
        skip
        exact hq10
      obtain ⟨ts10, t10, hts10, hat10, ht10⟩ := S10.dw.get 1 rfl
      refine ⟨_, rfl, du, _, _, _, rfl, rfl, SqL.of hts10, hat10, eSs _, eSs _, dp_Ss hq10, dp_Ss ht10, Nat.le_trans (dep_Ss _) (by decide), _, rfl, ?_⟩
      rw [enc_Ss, decide_eq_true rfl]
      refine iteF ?_
      clear hts10 hat10 ht10 hq10 f10
      exact ⟨_, _, _, _, _, _, _, _, _, _, rfl, LamX.ExtN.trans e12 (extN_butX sm3 S10.c.bx hs), S10.c.tb⟩
    · rintro σ' H2 ⟨_, _, _, _, _, _, _, _, _, _, rfl, _⟩
      exact q _
end
end SG
namespace SG
open PySem PySem.Spec PyProof.Rows L2 LamX
theorem all_mk {l : PySem.W.OpenLaw} {w : World} {K : PySem.W.Frag} {h : Heap} {mg : Str → Option Value} {fa kS f1 f2 f3 f4 f5 f6 f7 f8 f9 f10 f11 f12 f13 f14 f15 f16 f17 f18 f19 f20 f21 f22 f23 f24 f25 f26 f27 f28 f29 f30 f31 f32 f33 f34 f35 f36 f37 f38 f39 f40 f41 f42 f43 f44 f45 f46 f47 f48 f49 f50 C1 C2 C3 : Addr} (X : K.In h) (G : h.Ns mainGlobals mg) (hfa : mg "law" = some (.ref fa)) (OT : ∀ f2, mg "by_norms" = some (.ref f2) → OwnTab2 K f2 h) {eS : Value} {dS : Option Addr} {vS : Array Value} {sS : Array (Option Value)} {pS : Addr}
    {od1 an1 od2 an2 od3 an3 od4 an4 od5 an5 od6 an6 od7 an7 od8 an8 od9 an9 od10 an10 od11 an11 od12 an12 od13 an13 od14 an14 od15 an15 od16 an16 od17 an17 od18 an18 od19 an19 od20 an20 od21 an21 od22 an22 od23 an23 od24 an24 od25 an25 od26 an26 od27 an27 od28 an28 od29 an29 od30 an30 od31 an31 od32 an32 od33 an33 od34 an34 od35 an35 od36 an36 od37 an37 od38 an38 od39 an39 od40 an40 od41 an41 od42 an42 od43 an43 od44 an44 od45 an45 od46 an46 od47 an47 od48 an48 od49 an49 od50 an50 : Option Addr} {sl1 sl2 sl3 sl4 sl5 sl6 sl7 sl8 sl9 sl10 sl11 sl12 sl13 sl14 sl15 sl16 sl17 sl18 sl19 sl20 sl21 sl22 sl23 sl24 sl25 sl26 sl27 sl28 sl29 sl30 sl31 sl32 sl33 sl34 sl35 sl36 sl37 sl38 sl39 sl40 sl41 sl42 sl43 sl44 sl45 sl46 sl47 sl48 sl49 sl50 : Array (Option Value)} {oc1 kV1 dc1 pm1 cd1 ct1 oc2 kV2 dc2 pm2 cd2 ct2 oc3 kV3 dc3 pm3 cd3 ct3 oc4 kV4 dc4 pm4 cd4 ct4 oc5 kV5 dc5 pm5 cd5 ct5 oc6 kV6 dc6 pm6 cd6 ct6 oc7 kV7 dc7 pm7 cd7 ct7 oc8 kV8 dc8 pm8 cd8 ct8 oc9 kV9 dc9 pm9 cd9 ct9 oc10 kV10 dc10 pm10 cd10 ct10 oc11 kV11 dc11 pm11 cd11 ct11 oc12 kV12 dc12 pm12 cd12 ct12 oc13 kV13 dc13 pm13 cd13 ct13 oc14 kV14 dc14 pm14 cd14 ct14 oc15 kV15 dc15 pm15 cd15 ct15 oc16 kV16 dc16 pm16 cd16 ct16 oc17 kV17 dc17 pm17 cd17 ct17 oc18 kV18 dc18 pm18 cd18 ct18 oc19 kV19 dc19 pm19 cd19 ct19 oc20 kV20 dc20 pm20 cd20 ct20 oc21 kV21 dc21 pm21 ct21 oc22 kV22 dc22 pm22 cd22 ct22 oc23 kV23 dc23 pm23 cd23 ct23 oc24 kV24 dc24 pm24 cd24 ct24 oc25 kV25 dc25 pm25 cd25 ct25 oc26 kV26 dc26 pm26 cd26 ct26 oc27 kV27 dc27 pm27 cd27 ct27 oc28 kV28 dc28 pm28 cd28 ct28 oc29 kV29 dc29 pm29 cd29 ct29 oc30 kV30 dc30 pm30 cd30 ct30 oc31 kV31 dc31 pm31 cd31 ct31 oc32 kV32 dc32 pm32 cd32 ct32 oc33 kV33 dc33 pm33 cd33 ct33 oc34 kV34 dc34 pm34 cd34 ct34 oc35 kV35 dc35 pm35 cd35 ct35 oc36 kV36 dc36 pm36 cd36 ct36 oc37 kV37 dc37 pm37 cd37 ct37 oc38 kV38 dc38 pm38 cd38 ct38 oc39 kV39 dc39 pm39 cd39 ct39 oc40 kV40 dc40 pm40 cd40 ct40 oc41 kV41 dc41 pm41 cd41 ct41 oc42 kV42 dc42 pm42 cd42 ct42 oc43 kV43 dc43 pm43 cd43 ct43 oc44 kV44 dc44 pm44 cd44 ct44 oc45 kV45 dc45 pm45 cd45 ct45 oc46 kV46 dc46 pm46 cd46 ct46 oc47 kV47 dc47 pm47 cd47 ct47 oc48 kV48 dc48 pm48 cd48 ct48 oc49 kV49 dc49 pm49 cd49 ct49 oc50 kV50 dc50 pm50 cd50 ct50 : Value}
    {t_SMALL t_MOST_NAMES t_MOST_RULES t_MOST_ROW t_MOST_NORM t_MOST_ROW_NORM t_MOST_BAG_NORM : Tok}
    (aC1 : PySem.W.nsIn K mainGlobals "Grammar" = some (some (.ref C1))) (pg1 : PySem.W.plainGet K C1 Str.empty = true) (hd1 : PySem.W.hasDictIn K C1 = true) (po1 : PySem.W.plainOver K C1 = true) (sa1 : PySem.W.findIn K (.ref C1) "__setattr__" = some (some (.builtin "object.__setattr__"))) (mk1 : PySem.W.makesIn K C1 = true) (kc1 : PySem.W.keepIn K (.ref C1) = true)
    (n1_known : PySem.W.findIn K (.ref C1) "known" = some none)
    (n1_stored : PySem.W.findIn K (.ref C1) "stored" = some none)
    (n1_order : PySem.W.findIn K (.ref C1) "order" = some none)
    (aC2 : PySem.W.nsIn K mainGlobals "Refining" = some (some (.ref C2))) (pg2 : PySem.W.plainGet K C2 Str.empty = true) (hd2 : PySem.W.hasDictIn K C2 = true) (po2 : PySem.W.plainOver K C2 = true) (sa2 : PySem.W.findIn K (.ref C2) "__setattr__" = some (some (.builtin "object.__setattr__"))) (mk2 : PySem.W.makesIn K C2 = true) (kc2 : PySem.W.keepIn K (.ref C2) = true)
    (n2_grammar : PySem.W.findIn K (.ref C2) "grammar" = some none)
    (n2_kind : PySem.W.findIn K (.ref C2) "kind" = some none)
    (n2_known : PySem.W.findIn K (.ref C2) "known" = some none)
    (n2_old : PySem.W.findIn K (.ref C2) "old" = some none)
    (n2_base : PySem.W.findIn K (.ref C2) "base" = some none)
    (n2_firsts : PySem.W.findIn K (.ref C2) "firsts" = some none)
    (aC3 : PySem.W.nsIn K mainGlobals "Made" = some (some (.ref C3))) (pg3 : PySem.W.plainGet K C3 Str.empty = true) (hd3 : PySem.W.hasDictIn K C3 = true) (po3 : PySem.W.plainOver K C3 = true) (sa3 : PySem.W.findIn K (.ref C3) "__setattr__" = some (some (.builtin "object.__setattr__"))) (mk3 : PySem.W.makesIn K C3 = true) (kc3 : PySem.W.keepIn K (.ref C3) = true)
    (n3_known : PySem.W.findIn K (.ref C3) "known" = some none)
    (n3_base : PySem.W.findIn K (.ref C3) "base" = some none)
    (a1 : PySem.W.nsIn K mainGlobals "is_small" = some (some (.ref f1)))
    (l1 : K.lookup f1 = some ⟨oc1, od1, .func (PySem.W.fnOf "is_small" "is_small" (defArgs s_is_small) (defBody s_is_small) (defScope s_is_small) .none kV1 dc1 pm1 an1 cd1 ct1), sl1⟩) (c1 : PySem.W.codeIn K cd1 "is_small" = true) (k1 : PySem.W.keepIn K (.ref f1) = true)
    (a2 : PySem.W.nsIn K mainGlobals "is_name" = some (some (.ref f2)))
    (l2 : K.lookup f2 = some ⟨oc2, od2, .func (PySem.W.fnOf "is_name" "is_name" (defArgs s_is_name) (defBody s_is_name) (defScope s_is_name) .none kV2 dc2 pm2 an2 cd2 ct2), sl2⟩) (c2 : PySem.W.codeIn K cd2 "is_name" = true) (k2 : PySem.W.keepIn K (.ref f2) = true)
    (a3 : PySem.W.nsIn K mainGlobals "is_letter" = some (some (.ref f3)))
    (l3 : K.lookup f3 = some ⟨oc3, od3, .func (PySem.W.fnOf "is_letter" "is_letter" (defArgs s_is_letter) (defBody s_is_letter) (defScope s_is_letter) .none kV3 dc3 pm3 an3 cd3 ct3), sl3⟩) (c3 : PySem.W.codeIn K cd3 "is_letter" = true) (k3 : PySem.W.keepIn K (.ref f3) = true)
    (a4 : PySem.W.nsIn K mainGlobals "are_names" = some (some (.ref f4)))
    (l4 : K.lookup f4 = some ⟨oc4, od4, .func (PySem.W.fnOf "are_names" "are_names" (defArgs s_are_names) (defBody s_are_names) (defScope s_are_names) .none kV4 dc4 pm4 an4 cd4 ct4), sl4⟩) (c4 : PySem.W.codeIn K cd4 "are_names" = true) (k4 : PySem.W.keepIn K (.ref f4) = true)
    (a5 : PySem.W.findIn K (.ref C1) "__init__" = some (some (.ref f5))) (i5 : PySem.W.isFn K (.ref f5) = true)
    (l5 : K.lookup f5 = some ⟨oc5, od5, .func (PySem.W.fnOf "__init__" "Grammar.__init__" (defArgs s_Grammar___init__) (defBody s_Grammar___init__) (defScope s_Grammar___init__) .none kV5 dc5 pm5 an5 cd5 ct5), sl5⟩) (c5 : PySem.W.codeIn K cd5 "Grammar.__init__" = true) (k5 : PySem.W.keepIn K (.ref f5) = true)
    (a6 : PySem.W.findIn K (.ref C1) "lets_by" = some (some (.ref f6))) (i6 : PySem.W.isFn K (.ref f6) = true)
    (l6 : K.lookup f6 = some ⟨oc6, od6, .func (PySem.W.fnOf "lets_by" "Grammar.lets_by" (defArgs s_Grammar_lets_by) (defBody s_Grammar_lets_by) (defScope s_Grammar_lets_by) .none kV6 dc6 pm6 an6 cd6 ct6), sl6⟩) (c6 : PySem.W.codeIn K cd6 "Grammar.lets_by" = true) (k6 : PySem.W.keepIn K (.ref f6) = true)
    (a7 : PySem.W.findIn K (.ref C1) "names" = some (some (.ref f7))) (i7 : PySem.W.isFn K (.ref f7) = true)
    (l7 : K.lookup f7 = some ⟨oc7, od7, .func (PySem.W.fnOf "names" "Grammar.names" (defArgs s_Grammar_names) (defBody s_Grammar_names) (defScope s_Grammar_names) .none kV7 dc7 pm7 an7 cd7 ct7), sl7⟩) (c7 : PySem.W.codeIn K cd7 "Grammar.names" = true) (k7 : PySem.W.keepIn K (.ref f7) = true)
    (a8 : PySem.W.findIn K (.ref C1) "has" = some (some (.ref f8))) (i8 : PySem.W.isFn K (.ref f8) = true)
    (l8 : K.lookup f8 = some ⟨oc8, od8, .func (PySem.W.fnOf "has" "Grammar.has" (defArgs s_Grammar_has) (defBody s_Grammar_has) (defScope s_Grammar_has) .none kV8 dc8 pm8 an8 cd8 ct8), sl8⟩) (c8 : PySem.W.codeIn K cd8 "Grammar.has" = true) (k8 : PySem.W.keepIn K (.ref f8) = true)
    (a9 : PySem.W.findIn K (.ref C1) "rules_of" = some (some (.ref f9))) (i9 : PySem.W.isFn K (.ref f9) = true)
    (l9 : K.lookup f9 = some ⟨oc9, od9, .func (PySem.W.fnOf "rules_of" "Grammar.rules_of" (defArgs s_Grammar_rules_of) (defBody s_Grammar_rules_of) (defScope s_Grammar_rules_of) .none kV9 dc9 pm9 an9 cd9 ct9), sl9⟩) (c9 : PySem.W.codeIn K cd9 "Grammar.rules_of" = true) (k9 : PySem.W.keepIn K (.ref f9) = true)
    (a10 : PySem.W.nsIn K mainGlobals "look_at_names" = some (some (.ref f10)))
    (l10 : K.lookup f10 = some ⟨oc10, od10, .func (PySem.W.fnOf "look_at_names" "look_at_names" (defArgs s_look_at_names) (defBody s_look_at_names) (defScope s_look_at_names) .none kV10 dc10 pm10 an10 cd10 ct10), sl10⟩) (c10 : PySem.W.codeIn K cd10 "look_at_names" = true) (k10 : PySem.W.keepIn K (.ref f10) = true)
    (a11 : PySem.W.nsIn K mainGlobals "each_once" = some (some (.ref f11)))
    (l11 : K.lookup f11 = some ⟨oc11, od11, .func (PySem.W.fnOf "each_once" "each_once" (defArgs s_each_once) (defBody s_each_once) (defScope s_each_once) .none kV11 dc11 pm11 an11 cd11 ct11), sl11⟩) (c11 : PySem.W.codeIn K cd11 "each_once" = true) (k11 : PySem.W.keepIn K (.ref f11) = true)
    (a12 : PySem.W.nsIn K mainGlobals "row_steps" = some (some (.ref f12)))
    (l12 : K.lookup f12 = some ⟨oc12, od12, .func (PySem.W.fnOf "row_steps" "row_steps" (defArgs s_row_steps) (defBody s_row_steps) (defScope s_row_steps) .none kV12 dc12 pm12 an12 cd12 ct12), sl12⟩) (c12 : PySem.W.codeIn K cd12 "row_steps" = true) (k12 : PySem.W.keepIn K (.ref f12) = true)
    (a13 : PySem.W.nsIn K mainGlobals "bag_steps" = some (some (.ref f13)))
    (l13 : K.lookup f13 = some ⟨oc13, od13, .func (PySem.W.fnOf "bag_steps" "bag_steps" (defArgs s_bag_steps) (defBody s_bag_steps) (defScope s_bag_steps) .none kV13 dc13 pm13 an13 cd13 ct13), sl13⟩) (c13 : PySem.W.codeIn K cd13 "bag_steps" = true) (k13 : PySem.W.keepIn K (.ref f13) = true)
    (a14 : PySem.W.nsIn K mainGlobals "steps_of" = some (some (.ref f14)))
    (l14 : K.lookup f14 = some ⟨oc14, od14, .func (PySem.W.fnOf "steps_of" "steps_of" (defArgs s_steps_of) (defBody s_steps_of) (defScope s_steps_of) .none kV14 dc14 pm14 an14 cd14 ct14), sl14⟩) (c14 : PySem.W.codeIn K cd14 "steps_of" = true) (k14 : PySem.W.keepIn K (.ref f14) = true)
    (a15 : PySem.W.nsIn K mainGlobals "added_up" = some (some (.ref f15)))
    (l15 : K.lookup f15 = some ⟨oc15, od15, .func (PySem.W.fnOf "added_up" "added_up" (defArgs s_added_up) (defBody s_added_up) (defScope s_added_up) .none kV15 dc15 pm15 an15 cd15 ct15), sl15⟩) (c15 : PySem.W.codeIn K cd15 "added_up" = true) (k15 : PySem.W.keepIn K (.ref f15) = true)
    (a16 : PySem.W.nsIn K mainGlobals "norms" = some (some (.ref f16)))
    (l16 : K.lookup f16 = some ⟨oc16, od16, .func (PySem.W.fnOf "norms" "norms" (defArgs s_norms) (defBody s_norms) (defScope s_norms) .none kV16 dc16 pm16 an16 cd16 ct16), sl16⟩) (c16 : PySem.W.codeIn K cd16 "norms" = true) (k16 : PySem.W.keepIn K (.ref f16) = true)
    (a17 : PySem.W.nsIn K mainGlobals "lessening" = some (some (.ref f17)))
    (l17 : K.lookup f17 = some ⟨oc17, od17, .func (PySem.W.fnOf "lessening" "lessening" (defArgs s_lessening) (defBody s_lessening) (defScope s_lessening) .none kV17 dc17 pm17 an17 cd17 ct17), sl17⟩) (c17 : PySem.W.codeIn K cd17 "lessening" = true) (k17 : PySem.W.keepIn K (.ref f17) = true)
    (a18 : PySem.W.nsIn K mainGlobals "weighed" = some (some (.ref f18)))
    (l18 : K.lookup f18 = some ⟨oc18, od18, .func (PySem.W.fnOf "weighed" "weighed" (defArgs s_weighed) (defBody s_weighed) (defScope s_weighed) .none kV18 dc18 pm18 an18 cd18 ct18), sl18⟩) (c18 : PySem.W.codeIn K cd18 "weighed" = true) (k18 : PySem.W.keepIn K (.ref f18) = true)
    (a19 : PySem.W.nsIn K mainGlobals "put_out" = some (some (.ref f19)))
    (l19 : K.lookup f19 = some ⟨oc19, od19, .func (PySem.W.fnOf "put_out" "put_out" (defArgs s_put_out) (defBody s_put_out) (defScope s_put_out) .none kV19 dc19 pm19 an19 cd19 ct19), sl19⟩) (c19 : PySem.W.codeIn K cd19 "put_out" = true) (k19 : PySem.W.keepIn K (.ref f19) = true)
    (a20 : PySem.W.nsIn K mainGlobals "outs_of" = some (some (.ref f20)))
    (l20 : K.lookup f20 = some ⟨oc20, od20, .func (PySem.W.fnOf "outs_of" "outs_of" (defArgs s_outs_of) (defBody s_outs_of) (defScope s_outs_of) .none kV20 dc20 pm20 an20 cd20 ct20), sl20⟩) (c20 : PySem.W.codeIn K cd20 "outs_of" = true) (k20 : PySem.W.keepIn K (.ref f20) = true)
    (a21 : PySem.W.nsIn K mainGlobals "by_norms" = some (some (.ref f21)))
    (l21 : K.lookup f21 = some ⟨oc21, od21, .func (PySem.W.fnOf "by_norms" "by_norms" (defArgs s_by_norms) (defBody s_by_norms) (defScope s_by_norms) .none kV21 dc21 pm21 an21 (.ref kS) ct21), sl21⟩) (c21 : PySem.W.codeIn K (.ref kS) "by_norms" = true) (k21 : PySem.W.keepIn K (.ref f21) = true)
    (a22 : PySem.W.nsIn K mainGlobals "base_of_norms" = some (some (.ref f22)))
    (l22 : K.lookup f22 = some ⟨oc22, od22, .func (PySem.W.fnOf "base_of_norms" "base_of_norms" (defArgs s_base_of_norms) (defBody s_base_of_norms) (defScope s_base_of_norms) .none kV22 dc22 pm22 an22 cd22 ct22), sl22⟩) (c22 : PySem.W.codeIn K cd22 "base_of_norms" = true) (k22 : PySem.W.keepIn K (.ref f22) = true)
    (a23 : PySem.W.nsIn K mainGlobals "without" = some (some (.ref f23)))
    (l23 : K.lookup f23 = some ⟨oc23, od23, .func (PySem.W.fnOf "without" "without" (defArgs s_without) (defBody s_without) (defScope s_without) .none kV23 dc23 pm23 an23 cd23 ct23), sl23⟩) (c23 : PySem.W.codeIn K cd23 "without" = true) (k23 : PySem.W.keepIn K (.ref f23) = true)
    (a24 : PySem.W.findIn K (.ref C2) "__init__" = some (some (.ref f24))) (i24 : PySem.W.isFn K (.ref f24) = true)
    (l24 : K.lookup f24 = some ⟨oc24, od24, .func (PySem.W.fnOf "__init__" "Refining.__init__" (defArgs s_Refining___init__) (defBody s_Refining___init__) (defScope s_Refining___init__) .none kV24 dc24 pm24 an24 cd24 ct24), sl24⟩) (c24 : PySem.W.codeIn K cd24 "Refining.__init__" = true) (k24 : PySem.W.keepIn K (.ref f24) = true)
    (a25 : PySem.W.findIn K (.ref C2) "lessened" = some (some (.ref f25))) (i25 : PySem.W.isFn K (.ref f25) = true)
    (l25 : K.lookup f25 = some ⟨oc25, od25, .func (PySem.W.fnOf "lessened" "Refining.lessened" (defArgs s_Refining_lessened) (defBody s_Refining_lessened) (defScope s_Refining_lessened) .none kV25 dc25 pm25 an25 cd25 ct25), sl25⟩) (c25 : PySem.W.codeIn K cd25 "Refining.lessened" = true) (k25 : PySem.W.keepIn K (.ref f25) = true)
    (a26 : PySem.W.findIn K (.ref C2) "candidates" = some (some (.ref f26))) (i26 : PySem.W.isFn K (.ref f26) = true)
    (l26 : K.lookup f26 = some ⟨oc26, od26, .func (PySem.W.fnOf "candidates" "Refining.candidates" (defArgs s_Refining_candidates) (defBody s_Refining_candidates) (defScope s_Refining_candidates) .none kV26 dc26 pm26 an26 cd26 ct26), sl26⟩) (c26 : PySem.W.codeIn K cd26 "Refining.candidates" = true) (k26 : PySem.W.keepIn K (.ref f26) = true)
    (a27 : PySem.W.findIn K (.ref C2) "outs_by" = some (some (.ref f27))) (i27 : PySem.W.isFn K (.ref f27) = true)
    (l27 : K.lookup f27 = some ⟨oc27, od27, .func (PySem.W.fnOf "outs_by" "Refining.outs_by" (defArgs s_Refining_outs_by) (defBody s_Refining_outs_by) (defScope s_Refining_outs_by) .none kV27 dc27 pm27 an27 cd27 ct27), sl27⟩) (c27 : PySem.W.codeIn K cd27 "Refining.outs_by" = true) (k27 : PySem.W.keepIn K (.ref f27) = true)
    (a28 : PySem.W.findIn K (.ref C2) "passes" = some (some (.ref f28))) (i28 : PySem.W.isFn K (.ref f28) = true)
    (l28 : K.lookup f28 = some ⟨oc28, od28, .func (PySem.W.fnOf "passes" "Refining.passes" (defArgs s_Refining_passes) (defBody s_Refining_passes) (defScope s_Refining_passes) .none kV28 dc28 pm28 an28 cd28 ct28), sl28⟩) (c28 : PySem.W.codeIn K cd28 "Refining.passes" = true) (k28 : PySem.W.keepIn K (.ref f28) = true)
    (a29 : PySem.W.findIn K (.ref C2) "take" = some (some (.ref f29))) (i29 : PySem.W.isFn K (.ref f29) = true)
    (l29 : K.lookup f29 = some ⟨oc29, od29, .func (PySem.W.fnOf "take" "Refining.take" (defArgs s_Refining_take) (defBody s_Refining_take) (defScope s_Refining_take) .none kV29 dc29 pm29 an29 cd29 ct29), sl29⟩) (c29 : PySem.W.codeIn K cd29 "Refining.take" = true) (k29 : PySem.W.keepIn K (.ref f29) = true)
    (a30 : PySem.W.nsIn K mainGlobals "refined" = some (some (.ref f30)))
    (l30 : K.lookup f30 = some ⟨oc30, od30, .func (PySem.W.fnOf "refined" "refined" (defArgs s_refined) (defBody s_refined) (defScope s_refined) .none kV30 dc30 pm30 an30 cd30 ct30), sl30⟩) (c30 : PySem.W.codeIn K cd30 "refined" = true) (k30 : PySem.W.keepIn K (.ref f30) = true)
    (a31 : PySem.W.nsIn K mainGlobals "bases_of" = some (some (.ref f31)))
    (l31 : K.lookup f31 = some ⟨oc31, od31, .func (PySem.W.fnOf "bases_of" "bases_of" (defArgs s_bases_of) (defBody s_bases_of) (defScope s_bases_of) .none kV31 dc31 pm31 an31 cd31 ct31), sl31⟩) (c31 : PySem.W.codeIn K cd31 "bases_of" = true) (k31 : PySem.W.keepIn K (.ref f31) = true)
    (a32 : PySem.W.nsIn K mainGlobals "made_of" = some (some (.ref f32)))
    (l32 : K.lookup f32 = some ⟨oc32, od32, .func (PySem.W.fnOf "made_of" "made_of" (defArgs s_made_of) (defBody s_made_of) (defScope s_made_of) .none kV32 dc32 pm32 an32 cd32 ct32), sl32⟩) (c32 : PySem.W.codeIn K cd32 "made_of" = true) (k32 : PySem.W.keepIn K (.ref f32) = true)
    (a33 : PySem.W.findIn K (.ref C3) "__init__" = some (some (.ref f33))) (i33 : PySem.W.isFn K (.ref f33) = true)
    (l33 : K.lookup f33 = some ⟨oc33, od33, .func (PySem.W.fnOf "__init__" "Made.__init__" (defArgs s_Made___init__) (defBody s_Made___init__) (defScope s_Made___init__) .none kV33 dc33 pm33 an33 cd33 ct33), sl33⟩) (c33 : PySem.W.codeIn K cd33 "Made.__init__" = true) (k33 : PySem.W.keepIn K (.ref f33) = true)
    (a34 : PySem.W.findIn K (.ref C3) "out" = some (some (.ref f34))) (i34 : PySem.W.isFn K (.ref f34) = true)
    (l34 : K.lookup f34 = some ⟨oc34, od34, .func (PySem.W.fnOf "out" "Made.out" (defArgs s_Made_out) (defBody s_Made_out) (defScope s_Made_out) .none kV34 dc34 pm34 an34 cd34 ct34), sl34⟩) (c34 : PySem.W.codeIn K cd34 "Made.out" = true) (k34 : PySem.W.keepIn K (.ref f34) = true)
    (a35 : PySem.W.nsIn K mainGlobals "like_so_far" = some (some (.ref f35)))
    (l35 : K.lookup f35 = some ⟨oc35, od35, .func (PySem.W.fnOf "like_so_far" "like_so_far" (defArgs s_like_so_far) (defBody s_like_so_far) (defScope s_like_so_far) .none kV35 dc35 pm35 an35 cd35 ct35), sl35⟩) (c35 : PySem.W.codeIn K cd35 "like_so_far" = true) (k35 : PySem.W.keepIn K (.ref f35) = true)
    (a36 : PySem.W.nsIn K mainGlobals "common_begin" = some (some (.ref f36)))
    (l36 : K.lookup f36 = some ⟨oc36, od36, .func (PySem.W.fnOf "common_begin" "common_begin" (defArgs s_common_begin) (defBody s_common_begin) (defScope s_common_begin) .none kV36 dc36 pm36 an36 cd36 ct36), sl36⟩) (c36 : PySem.W.codeIn K cd36 "common_begin" = true) (k36 : PySem.W.keepIn K (.ref f36) = true)
    (a37 : PySem.W.nsIn K mainGlobals "common_end" = some (some (.ref f37)))
    (l37 : K.lookup f37 = some ⟨oc37, od37, .func (PySem.W.fnOf "common_end" "common_end" (defArgs s_common_end) (defBody s_common_end) (defScope s_common_end) .none kV37 dc37 pm37 an37 cd37 ct37), sl37⟩) (c37 : PySem.W.codeIn K cd37 "common_end" = true) (k37 : PySem.W.keepIn K (.ref f37) = true)
    (a38 : PySem.W.nsIn K mainGlobals "_law_cell_at" = some (some (.ref f38)))
    (l38 : K.lookup f38 = some ⟨oc38, od38, .func (PySem.W.fnOf "_law_cell_at" "_law_cell_at" (defArgs s__law_cell_at) (defBody s__law_cell_at) (defScope s__law_cell_at) .none kV38 dc38 pm38 an38 cd38 ct38), sl38⟩) (c38 : PySem.W.codeIn K cd38 "_law_cell_at" = true) (k38 : PySem.W.keepIn K (.ref f38) = true)
    (a39 : PySem.W.nsIn K mainGlobals "_law_well" = some (some (.ref f39)))
    (l39 : K.lookup f39 = some ⟨oc39, od39, .func (PySem.W.fnOf "_law_well" "_law_well" (defArgs s__law_well) (defBody s__law_well) (defScope s__law_well) .none kV39 dc39 pm39 an39 cd39 ct39), sl39⟩) (c39 : PySem.W.codeIn K cd39 "_law_well" = true) (k39 : PySem.W.keepIn K (.ref f39) = true)
    (a40 : PySem.W.nsIn K mainGlobals "_law_draw" = some (some (.ref f40)))
    (l40 : K.lookup f40 = some ⟨oc40, od40, .func (PySem.W.fnOf "_law_draw" "_law_draw" (defArgs s__law_draw) (defBody s__law_draw) (defScope s__law_draw) .none kV40 dc40 pm40 an40 cd40 ct40), sl40⟩) (c40 : PySem.W.codeIn K cd40 "_law_draw" = true) (k40 : PySem.W.keepIn K (.ref f40) = true)
    (a41 : PySem.W.nsIn K mainGlobals "_law_one" = some (some (.ref f41)))
    (l41 : K.lookup f41 = some ⟨oc41, od41, .func (PySem.W.fnOf "_law_one" "_law_one" (defArgs s__law_one) (defBody s__law_one) (defScope s__law_one) .none kV41 dc41 pm41 an41 cd41 ct41), sl41⟩) (c41 : PySem.W.codeIn K cd41 "_law_one" = true) (k41 : PySem.W.keepIn K (.ref f41) = true)
    (a42 : PySem.W.nsIn K mainGlobals "_law_names" = some (some (.ref f42)))
    (l42 : K.lookup f42 = some ⟨oc42, od42, .func (PySem.W.fnOf "_law_names" "_law_names" (defArgs s__law_names) (defBody s__law_names) (defScope s__law_names) .none kV42 dc42 pm42 an42 cd42 ct42), sl42⟩) (c42 : PySem.W.codeIn K cd42 "_law_names" = true) (k42 : PySem.W.keepIn K (.ref f42) = true)
    (a43 : PySem.W.nsIn K mainGlobals "_law_signs" = some (some (.ref f43)))
    (l43 : K.lookup f43 = some ⟨oc43, od43, .func (PySem.W.fnOf "_law_signs" "_law_signs" (defArgs s__law_signs) (defBody s__law_signs) (defScope s__law_signs) .none kV43 dc43 pm43 an43 cd43 ct43), sl43⟩) (c43 : PySem.W.codeIn K cd43 "_law_signs" = true) (k43 : PySem.W.keepIn K (.ref f43) = true)
    (a44 : PySem.W.nsIn K mainGlobals "_law_mixed" = some (some (.ref f44)))
    (l44 : K.lookup f44 = some ⟨oc44, od44, .func (PySem.W.fnOf "_law_mixed" "_law_mixed" (defArgs s__law_mixed) (defBody s__law_mixed) (defScope s__law_mixed) .none kV44 dc44 pm44 an44 cd44 ct44), sl44⟩) (c44 : PySem.W.codeIn K cd44 "_law_mixed" = true) (k44 : PySem.W.keepIn K (.ref f44) = true)
    (a45 : PySem.W.nsIn K mainGlobals "_law_rules" = some (some (.ref f45)))
    (l45 : K.lookup f45 = some ⟨oc45, od45, .func (PySem.W.fnOf "_law_rules" "_law_rules" (defArgs s__law_rules) (defBody s__law_rules) (defScope s__law_rules) .none kV45 dc45 pm45 an45 cd45 ct45), sl45⟩) (c45 : PySem.W.codeIn K cd45 "_law_rules" = true) (k45 : PySem.W.keepIn K (.ref f45) = true)
    (a46 : PySem.W.nsIn K mainGlobals "_law_kin" = some (some (.ref f46)))
    (l46 : K.lookup f46 = some ⟨oc46, od46, .func (PySem.W.fnOf "_law_kin" "_law_kin" (defArgs s__law_kin) (defBody s__law_kin) (defScope s__law_kin) .none kV46 dc46 pm46 an46 cd46 ct46), sl46⟩) (c46 : PySem.W.codeIn K cd46 "_law_kin" = true) (k46 : PySem.W.keepIn K (.ref f46) = true)
    (a47 : PySem.W.nsIn K mainGlobals "_law_grammar" = some (some (.ref f47)))
    (l47 : K.lookup f47 = some ⟨oc47, od47, .func (PySem.W.fnOf "_law_grammar" "_law_grammar" (defArgs s__law_grammar) (defBody s__law_grammar) (defScope s__law_grammar) .none kV47 dc47 pm47 an47 cd47 ct47), sl47⟩) (c47 : PySem.W.codeIn K cd47 "_law_grammar" = true) (k47 : PySem.W.keepIn K (.ref f47) = true)
    (a48 : PySem.W.nsIn K mainGlobals "_law_row" = some (some (.ref f48)))
    (l48 : K.lookup f48 = some ⟨oc48, od48, .func (PySem.W.fnOf "_law_row" "_law_row" (defArgs s__law_row) (defBody s__law_row) (defScope s__law_row) .none kV48 dc48 pm48 an48 cd48 ct48), sl48⟩) (c48 : PySem.W.codeIn K cd48 "_law_row" = true) (k48 : PySem.W.keepIn K (.ref f48) = true)
    (a49 : PySem.W.nsIn K mainGlobals "_law_same" = some (some (.ref f49)))
    (l49 : K.lookup f49 = some ⟨oc49, od49, .func (PySem.W.fnOf "_law_same" "_law_same" (defArgs s__law_same) (defBody s__law_same) (defScope s__law_same) .none kV49 dc49 pm49 an49 cd49 ct49), sl49⟩) (c49 : PySem.W.codeIn K cd49 "_law_same" = true) (k49 : PySem.W.keepIn K (.ref f49) = true)
    (a50 : PySem.W.nsIn K mainGlobals "law" = some (some (.ref f50)))
    (l50 : K.lookup f50 = some ⟨oc50, od50, .func (PySem.W.fnOf "law" "law" (defArgs s_law) (defBody s_law) (defScope s_law) .none kV50 dc50 pm50 an50 cd50 ct50), sl50⟩) (c50 : PySem.W.codeIn K cd50 "law" = true) (k50 : PySem.W.keepIn K (.ref f50) = true)
    (z_SMALL : PySem.W.nsIn K mainGlobals "SMALL" = some (some (.str "abcdefghijklmnopqrstuvwxyz" t_SMALL)))
    (z_MOST_NAMES : PySem.W.nsIn K mainGlobals "MOST_NAMES" = some (some (.int 6 t_MOST_NAMES)))
    (z_MOST_RULES : PySem.W.nsIn K mainGlobals "MOST_RULES" = some (some (.int 4 t_MOST_RULES)))
    (z_MOST_ROW : PySem.W.nsIn K mainGlobals "MOST_ROW" = some (some (.int 3 t_MOST_ROW)))
    (z_MOST_NORM : PySem.W.nsIn K mainGlobals "MOST_NORM" = some (some (.int 12 t_MOST_NORM)))
    (z_MOST_ROW_NORM : PySem.W.nsIn K mainGlobals "MOST_ROW_NORM" = some (some (.int 24 t_MOST_ROW_NORM)))
    (z_MOST_BAG_NORM : PySem.W.nsIn K mainGlobals "MOST_BAG_NORM" = some (some (.int 16 t_MOST_BAG_NORM)))
    (tS : K.lookup kS = some ⟨eS, dS, .fields vS, sS⟩) (t11 : vS[11]? = some (.ref pS)) (tP : K.lookup pS = none)
    (z_len : PySem.W.nsIn K mainGlobals "len" = some none) (z_set : PySem.W.nsIn K mainGlobals "set" = some none) (z_all : PySem.W.nsIn K mainGlobals "all" = some none) (z_any : PySem.W.nsIn K mainGlobals "any" = some none) (z_list : PySem.W.nsIn K mainGlobals "list" = some none) (z_enumerate : PySem.W.nsIn K mainGlobals "enumerate" = some none) (z_range : PySem.W.nsIn K mainGlobals "range" = some none) (z_sum : PySem.W.nsIn K mainGlobals "sum" = some none) (z_sorted : PySem.W.nsIn K mainGlobals "sorted" = some none) (z_dict : PySem.W.nsIn K mainGlobals "dict" = some none) (z_int : PySem.W.nsIn K mainGlobals "int" = some none) (z_isinstance : PySem.W.nsIn K mainGlobals "isinstance" = some none) (z_max : PySem.W.nsIn K mainGlobals "max" = some none) (z_min : PySem.W.nsIn K mainGlobals "min" = some none) (z_tuple : PySem.W.nsIn K mainGlobals "tuple" = some none) (z_bool : PySem.W.nsIn K mainGlobals "bool" = some none) :
    LawAtS l w K CX0 15 63 "_law_script" mg fa h := by
  have e := hfa.symm.trans (PySem.W.mg_of X G a50)
  cases e
  have F1 := fun_mk (st := s_is_small) l1 c1 k1
  have b1 := F1.binds (ps := ["text"]) fun _ _ _ _ _ _ us hl => match us, hl with | [_], _ => rfl
  have F2 := fun_mk (st := s_is_name) l2 c2 k2
  have b2 := F2.binds (ps := ["text"]) fun _ _ _ _ _ _ us hl => match us, hl with | [_], _ => rfl
  have F3 := fun_mk (st := s_is_letter) l3 c3 k3
  have b3 := F3.binds (ps := ["text"]) fun _ _ _ _ _ _ us hl => match us, hl with | [_], _ => rfl
  have F4 := fun_mk (st := s_are_names) l4 c4 k4
  have b4 := F4.binds (ps := ["names"]) fun _ _ _ _ _ _ us hl => match us, hl with | [_], _ => rfl
  have F5 := fun_mk (st := s_Grammar___init__) l5 c5 k5
  have b5 := F5.binds (ps := ["self", "names", "rules"]) fun _ _ _ _ _ _ us hl => match us, hl with | [_, _, _], _ => rfl
  have F6 := fun_mk (st := s_Grammar_lets_by) l6 c6 k6
  have b6 := F6.binds (ps := ["self", "rule"]) fun _ _ _ _ _ _ us hl => match us, hl with | [_, _], _ => rfl
  have F7 := fun_mk (st := s_Grammar_names) l7 c7 k7
  have b7 := F7.binds (ps := ["self"]) fun _ _ _ _ _ _ us hl => match us, hl with | [_], _ => rfl
  have F8 := fun_mk (st := s_Grammar_has) l8 c8 k8
  have b8 := F8.binds (ps := ["self", "name"]) fun _ _ _ _ _ _ us hl => match us, hl with | [_, _], _ => rfl
  have F9 := fun_mk (st := s_Grammar_rules_of) l9 c9 k9
  have b9 := F9.binds (ps := ["self", "name"]) fun _ _ _ _ _ _ us hl => match us, hl with | [_, _], _ => rfl
  have F10 := fun_mk (st := s_look_at_names) l10 c10 k10
  have b10 := F10.binds (ps := ["grammar", "row"]) fun _ _ _ _ _ _ us hl => match us, hl with | [_, _], _ => rfl
  have F11 := fun_mk (st := s_each_once) l11 c11 k11
  have b11 := F11.binds (ps := ["steps"]) fun _ _ _ _ _ _ us hl => match us, hl with | [_], _ => rfl
  have F12 := fun_mk (st := s_row_steps) l12 c12 k12
  have b12 := F12.binds (ps := ["grammar", "row"]) fun _ _ _ _ _ _ us hl => match us, hl with | [_, _], _ => rfl
  have F13 := fun_mk (st := s_bag_steps) l13 c13 k13
  have b13 := F13.binds (ps := ["grammar", "bag"]) fun _ _ _ _ _ _ us hl => match us, hl with | [_, _], _ => rfl
  have F14 := fun_mk (st := s_steps_of) l14 c14 k14
  have b14 := F14.binds (ps := ["grammar", "kind", "one"]) fun _ _ _ _ _ _ us hl => match us, hl with | [_, _, _], _ => rfl
  have F15 := fun_mk (st := s_added_up) l15 c15 k15
  have b15 := F15.binds (ps := ["norms", "row"]) fun _ _ _ _ _ _ us hl => match us, hl with | [_, _], _ => rfl
  have F16 := fun_mk (st := s_norms) l16 c16 k16
  have b16 := F16.binds (ps := ["grammar"]) fun _ _ _ _ _ _ us hl => match us, hl with | [_], _ => rfl
  have F17 := fun_mk (st := s_lessening) l17 c17 k17
  have b17 := F17.binds (ps := ["grammar", "known", "name"]) fun _ _ _ _ _ _ us hl => match us, hl with | [_, _, _], _ => rfl
  have F18 := fun_mk (st := s_weighed) l18 c18 k18
  have b18 := F18.binds (ps := ["grammar", "kind", "rows"]) fun _ _ _ _ _ _ us hl => match us, hl with | [_, _, _], _ => rfl
  have F19 := fun_mk (st := s_put_out) l19 c19 k19
  have b19 := F19.binds (ps := ["kind", "base", "one"]) fun _ _ _ _ _ _ us hl => match us, hl with | [_, _, _], _ => rfl
  have F20 := fun_mk (st := s_outs_of) l20 c20 k20
  have b20 := F20.binds (ps := ["kind", "base", "steps"]) fun _ _ _ _ _ _ us hl => match us, hl with | [_, _, _], _ => rfl
  have F21 := fun_mk (st := s_by_norms) l21 c21 k21
  have b21 := F21.binds (ps := ["grammar", "known"]) fun _ _ _ _ _ _ us hl => match us, hl with | [_, _], _ => rfl
  have F22 := fun_mk (st := s_base_of_norms) l22 c22 k22
  have b22 := F22.binds (ps := ["grammar", "known"]) fun _ _ _ _ _ _ us hl => match us, hl with | [_, _], _ => rfl
  have F23 := fun_mk (st := s_without) l23 c23 k23
  have b23 := F23.binds (ps := ["kind", "whole", "part"]) fun _ _ _ _ _ _ us hl => match us, hl with | [_, _, _], _ => rfl
  have F24 := fun_mk (st := s_Refining___init__) l24 c24 k24
  have b24 := F24.binds (ps := ["self", "grammar", "kind", "known", "old"]) fun _ _ _ _ _ _ us hl => match us, hl with | [_, _, _, _, _], _ => rfl
  have F25 := fun_mk (st := s_Refining_lessened) l25 c25 k25
  have b25 := F25.binds (ps := ["self", "one"]) fun _ _ _ _ _ _ us hl => match us, hl with | [_, _], _ => rfl
  have F26 := fun_mk (st := s_Refining_candidates) l26 c26 k26
  have b26 := F26.binds (ps := ["self", "name"]) fun _ _ _ _ _ _ us hl => match us, hl with | [_, _], _ => rfl
  have F27 := fun_mk (st := s_Refining_outs_by) l27 c27 k27
  have b27 := F27.binds (ps := ["self", "base", "one", "less"]) fun _ _ _ _ _ _ us hl => match us, hl with | [_, _, _, _], _ => rfl
  have F28 := fun_mk (st := s_Refining_passes) l28 c28 k28
  have b28 := F28.binds (ps := ["self", "name", "making"]) fun _ _ _ _ _ _ us hl => match us, hl with | [_, _, _], _ => rfl
  have F29 := fun_mk (st := s_Refining_take) l29 c29 k29
  have b29 := F29.binds (ps := ["self", "name"]) fun _ _ _ _ _ _ us hl => match us, hl with | [_, _], _ => rfl
  have F30 := fun_mk (st := s_refined) l30 c30 k30
  have b30 := F30.binds (ps := ["grammar", "kind", "known", "old"]) fun _ _ _ _ _ _ us hl => match us, hl with | [_, _, _, _], _ => rfl
  have F31 := fun_mk (st := s_bases_of) l31 c31 k31
  have b31 := F31.binds (ps := ["grammar", "kind", "known"]) fun _ _ _ _ _ _ us hl => match us, hl with | [_, _, _], _ => rfl
  have F32 := fun_mk (st := s_made_of) l32 c32 k32
  have b32 := F32.binds (ps := ["grammar", "kind", "one"]) fun _ _ _ _ _ _ us hl => match us, hl with | [_, _, _], _ => rfl
  have F33 := fun_mk (st := s_Made___init__) l33 c33 k33
  have b33 := F33.binds (ps := ["self", "grammar", "rows"]) fun _ _ _ _ _ _ us hl => match us, hl with | [_, _, _], _ => rfl
  have F34 := fun_mk (st := s_Made_out) l34 c34 k34
  have b34 := F34.binds (ps := ["self", "row"]) fun _ _ _ _ _ _ us hl => match us, hl with | [_, _], _ => rfl
  have F35 := fun_mk (st := s_like_so_far) l35 c35 k35
  have b35 := F35.binds (ps := ["one", "other"]) fun _ _ _ _ _ _ us hl => match us, hl with | [_, _], _ => rfl
  have F36 := fun_mk (st := s_common_begin) l36 c36 k36
  have b36 := F36.binds (ps := ["grammar", "one", "other"]) fun _ _ _ _ _ _ us hl => match us, hl with | [_, _, _], _ => rfl
  have F37 := fun_mk (st := s_common_end) l37 c37 k37
  have b37 := F37.binds (ps := ["grammar", "one", "other"]) fun _ _ _ _ _ _ us hl => match us, hl with | [_, _, _], _ => rfl
  have F38 := fun_mk (st := s__law_cell_at) l38 c38 k38
  have b38 := F38.binds (ps := ["_law_script", "_law_k"]) fun _ _ _ _ _ _ us hl => match us, hl with | [_, _], _ => rfl
  have F39 := fun_mk (st := s__law_well) l39 c39 k39
  have b39 := F39.binds (ps := ["_law_cell"]) fun _ _ _ _ _ _ us hl => match us, hl with | [_], _ => rfl
  have F40 := fun_mk (st := s__law_draw) l40 c40 k40
  have b40 := F40.binds (ps := ["_law_well_here", "_law_many"]) fun _ _ _ _ _ _ us hl => match us, hl with | [_, _], _ => rfl
  have F41 := fun_mk (st := s__law_one) l41 c41 k41
  have b41 := F41.binds (ps := ["_law_well_here", "_law_some"]) fun _ _ _ _ _ _ us hl => match us, hl with | [_, _], _ => rfl
  have F42 := fun_mk (st := s__law_names) l42 c42 k42
  have b42 := F42.binds (ps := ["_law_well_here", "_law_many"]) fun _ _ _ _ _ _ us hl => match us, hl with | [_, _], _ => rfl
  have F43 := fun_mk (st := s__law_signs) l43 c43 k43
  have b43 := F43.binds (ps := ["_law_well_here", "_law_many"]) fun _ _ _ _ _ _ us hl => match us, hl with | [_, _], _ => rfl
  have F44 := fun_mk (st := s__law_mixed) l44 c44 k44
  have b44 := F44.binds (ps := ["_law_well_here", "_law_some"]) fun _ _ _ _ _ _ us hl => match us, hl with | [_, _], _ => rfl
  have F45 := fun_mk (st := s__law_rules) l45 c45 k45
  have b45 := F45.binds (ps := ["_law_well_here", "_law_names_here", "_law_signs_here", "_law_plain", "_law_most"]) fun _ _ _ _ _ _ us hl => match us, hl with | [_, _, _, _, _], _ => rfl
  have F46 := fun_mk (st := s__law_kin) l46 c46 k46
  have b46 := F46.binds (ps := ["_law_well_here", "_law_rules_here", "_law_known", "_law_names_here", "_law_name"]) fun _ _ _ _ _ _ us hl => match us, hl with | [_, _, _, _, _], _ => rfl
  have F47 := fun_mk (st := s__law_grammar) l47 c47 k47
  have b47 := F47.binds (ps := ["_law_well_here"]) fun _ _ _ _ _ _ us hl => match us, hl with | [_], _ => rfl
  have F48 := fun_mk (st := s__law_row) l48 c48 k48
  have b48 := F48.binds (ps := ["_law_well_here", "_law_names_here", "_law_known", "_law_most"]) fun _ _ _ _ _ _ us hl => match us, hl with | [_, _, _, _], _ => rfl
  have F49 := fun_mk (st := s__law_same) l49 c49 k49
  have b49 := F49.binds (ps := ["_law_one_here", "_law_other"]) fun _ _ _ _ _ _ us hl => match us, hl with | [_, _], _ => rfl
  have F50 := fun_mk (st := s_law) l50 c50 k50
  have T : Txt K mg ⟨C1, C2, C3, f1, PySem.W.fnOf "is_small" "is_small" (defArgs s_is_small) (defBody s_is_small) (defScope s_is_small) .none kV1 dc1 pm1 an1 cd1 ct1, f2, PySem.W.fnOf "is_name" "is_name" (defArgs s_is_name) (defBody s_is_name) (defScope s_is_name) .none kV2 dc2 pm2 an2 cd2 ct2, f3, PySem.W.fnOf "is_letter" "is_letter" (defArgs s_is_letter) (defBody s_is_letter) (defScope s_is_letter) .none kV3 dc3 pm3 an3 cd3 ct3, f4, PySem.W.fnOf "are_names" "are_names" (defArgs s_are_names) (defBody s_are_names) (defScope s_are_names) .none kV4 dc4 pm4 an4 cd4 ct4, f5, PySem.W.fnOf "__init__" "Grammar.__init__" (defArgs s_Grammar___init__) (defBody s_Grammar___init__) (defScope s_Grammar___init__) .none kV5 dc5 pm5 an5 cd5 ct5, f6, PySem.W.fnOf "lets_by" "Grammar.lets_by" (defArgs s_Grammar_lets_by) (defBody s_Grammar_lets_by) (defScope s_Grammar_lets_by) .none kV6 dc6 pm6 an6 cd6 ct6, f7, PySem.W.fnOf "names" "Grammar.names" (defArgs s_Grammar_names) (defBody s_Grammar_names) (defScope s_Grammar_names) .none kV7 dc7 pm7 an7 cd7 ct7, f8, PySem.W.fnOf "has" "Grammar.has" (defArgs s_Grammar_has) (defBody s_Grammar_has) (defScope s_Grammar_has) .none kV8 dc8 pm8 an8 cd8 ct8, f9, PySem.W.fnOf "rules_of" "Grammar.rules_of" (defArgs s_Grammar_rules_of) (defBody s_Grammar_rules_of) (defScope s_Grammar_rules_of) .none kV9 dc9 pm9 an9 cd9 ct9, f10, PySem.W.fnOf "look_at_names" "look_at_names" (defArgs s_look_at_names) (defBody s_look_at_names) (defScope s_look_at_names) .none kV10 dc10 pm10 an10 cd10 ct10, f11, PySem.W.fnOf "each_once" "each_once" (defArgs s_each_once) (defBody s_each_once) (defScope s_each_once) .none kV11 dc11 pm11 an11 cd11 ct11, f12, PySem.W.fnOf "row_steps" "row_steps" (defArgs s_row_steps) (defBody s_row_steps) (defScope s_row_steps) .none kV12 dc12 pm12 an12 cd12 ct12, f13, PySem.W.fnOf "bag_steps" "bag_steps" (defArgs s_bag_steps) (defBody s_bag_steps) (defScope s_bag_steps) .none kV13 dc13 pm13 an13 cd13 ct13, f14, PySem.W.fnOf "steps_of" "steps_of" (defArgs s_steps_of) (defBody s_steps_of) (defScope s_steps_of) .none kV14 dc14 pm14 an14 cd14 ct14, f15, PySem.W.fnOf "added_up" "added_up" (defArgs s_added_up) (defBody s_added_up) (defScope s_added_up) .none kV15 dc15 pm15 an15 cd15 ct15, f16, PySem.W.fnOf "norms" "norms" (defArgs s_norms) (defBody s_norms) (defScope s_norms) .none kV16 dc16 pm16 an16 cd16 ct16, f17, PySem.W.fnOf "lessening" "lessening" (defArgs s_lessening) (defBody s_lessening) (defScope s_lessening) .none kV17 dc17 pm17 an17 cd17 ct17, f18, PySem.W.fnOf "weighed" "weighed" (defArgs s_weighed) (defBody s_weighed) (defScope s_weighed) .none kV18 dc18 pm18 an18 cd18 ct18, f19, PySem.W.fnOf "put_out" "put_out" (defArgs s_put_out) (defBody s_put_out) (defScope s_put_out) .none kV19 dc19 pm19 an19 cd19 ct19, f20, PySem.W.fnOf "outs_of" "outs_of" (defArgs s_outs_of) (defBody s_outs_of) (defScope s_outs_of) .none kV20 dc20 pm20 an20 cd20 ct20, f21, PySem.W.fnOf "by_norms" "by_norms" (defArgs s_by_norms) (defBody s_by_norms) (defScope s_by_norms) .none kV21 dc21 pm21 an21 (.ref kS) ct21, f22, PySem.W.fnOf "base_of_norms" "base_of_norms" (defArgs s_base_of_norms) (defBody s_base_of_norms) (defScope s_base_of_norms) .none kV22 dc22 pm22 an22 cd22 ct22, f23, PySem.W.fnOf "without" "without" (defArgs s_without) (defBody s_without) (defScope s_without) .none kV23 dc23 pm23 an23 cd23 ct23, f24, PySem.W.fnOf "__init__" "Refining.__init__" (defArgs s_Refining___init__) (defBody s_Refining___init__) (defScope s_Refining___init__) .none kV24 dc24 pm24 an24 cd24 ct24, f25, PySem.W.fnOf "lessened" "Refining.lessened" (defArgs s_Refining_lessened) (defBody s_Refining_lessened) (defScope s_Refining_lessened) .none kV25 dc25 pm25 an25 cd25 ct25, f26, PySem.W.fnOf "candidates" "Refining.candidates" (defArgs s_Refining_candidates) (defBody s_Refining_candidates) (defScope s_Refining_candidates) .none kV26 dc26 pm26 an26 cd26 ct26, f27, PySem.W.fnOf "outs_by" "Refining.outs_by" (defArgs s_Refining_outs_by) (defBody s_Refining_outs_by) (defScope s_Refining_outs_by) .none kV27 dc27 pm27 an27 cd27 ct27, f28, PySem.W.fnOf "passes" "Refining.passes" (defArgs s_Refining_passes) (defBody s_Refining_passes) (defScope s_Refining_passes) .none kV28 dc28 pm28 an28 cd28 ct28, f29, PySem.W.fnOf "take" "Refining.take" (defArgs s_Refining_take) (defBody s_Refining_take) (defScope s_Refining_take) .none kV29 dc29 pm29 an29 cd29 ct29, f30, PySem.W.fnOf "refined" "refined" (defArgs s_refined) (defBody s_refined) (defScope s_refined) .none kV30 dc30 pm30 an30 cd30 ct30, f31, PySem.W.fnOf "bases_of" "bases_of" (defArgs s_bases_of) (defBody s_bases_of) (defScope s_bases_of) .none kV31 dc31 pm31 an31 cd31 ct31, f32, PySem.W.fnOf "made_of" "made_of" (defArgs s_made_of) (defBody s_made_of) (defScope s_made_of) .none kV32 dc32 pm32 an32 cd32 ct32, f33, PySem.W.fnOf "__init__" "Made.__init__" (defArgs s_Made___init__) (defBody s_Made___init__) (defScope s_Made___init__) .none kV33 dc33 pm33 an33 cd33 ct33, f34, PySem.W.fnOf "out" "Made.out" (defArgs s_Made_out) (defBody s_Made_out) (defScope s_Made_out) .none kV34 dc34 pm34 an34 cd34 ct34, f35, PySem.W.fnOf "like_so_far" "like_so_far" (defArgs s_like_so_far) (defBody s_like_so_far) (defScope s_like_so_far) .none kV35 dc35 pm35 an35 cd35 ct35, f36, PySem.W.fnOf "common_begin" "common_begin" (defArgs s_common_begin) (defBody s_common_begin) (defScope s_common_begin) .none kV36 dc36 pm36 an36 cd36 ct36, f37, PySem.W.fnOf "common_end" "common_end" (defArgs s_common_end) (defBody s_common_end) (defScope s_common_end) .none kV37 dc37 pm37 an37 cd37 ct37, f38, PySem.W.fnOf "_law_cell_at" "_law_cell_at" (defArgs s__law_cell_at) (defBody s__law_cell_at) (defScope s__law_cell_at) .none kV38 dc38 pm38 an38 cd38 ct38, f39, PySem.W.fnOf "_law_well" "_law_well" (defArgs s__law_well) (defBody s__law_well) (defScope s__law_well) .none kV39 dc39 pm39 an39 cd39 ct39, f40, PySem.W.fnOf "_law_draw" "_law_draw" (defArgs s__law_draw) (defBody s__law_draw) (defScope s__law_draw) .none kV40 dc40 pm40 an40 cd40 ct40, f41, PySem.W.fnOf "_law_one" "_law_one" (defArgs s__law_one) (defBody s__law_one) (defScope s__law_one) .none kV41 dc41 pm41 an41 cd41 ct41, f42, PySem.W.fnOf "_law_names" "_law_names" (defArgs s__law_names) (defBody s__law_names) (defScope s__law_names) .none kV42 dc42 pm42 an42 cd42 ct42, f43, PySem.W.fnOf "_law_signs" "_law_signs" (defArgs s__law_signs) (defBody s__law_signs) (defScope s__law_signs) .none kV43 dc43 pm43 an43 cd43 ct43, f44, PySem.W.fnOf "_law_mixed" "_law_mixed" (defArgs s__law_mixed) (defBody s__law_mixed) (defScope s__law_mixed) .none kV44 dc44 pm44 an44 cd44 ct44, f45, PySem.W.fnOf "_law_rules" "_law_rules" (defArgs s__law_rules) (defBody s__law_rules) (defScope s__law_rules) .none kV45 dc45 pm45 an45 cd45 ct45, f46, PySem.W.fnOf "_law_kin" "_law_kin" (defArgs s__law_kin) (defBody s__law_kin) (defScope s__law_kin) .none kV46 dc46 pm46 an46 cd46 ct46, f47, PySem.W.fnOf "_law_grammar" "_law_grammar" (defArgs s__law_grammar) (defBody s__law_grammar) (defScope s__law_grammar) .none kV47 dc47 pm47 an47 cd47 ct47, f48, PySem.W.fnOf "_law_row" "_law_row" (defArgs s__law_row) (defBody s__law_row) (defScope s__law_row) .none kV48 dc48 pm48 an48 cd48 ct48, f49, PySem.W.fnOf "_law_same" "_law_same" (defArgs s__law_same) (defBody s__law_same) (defScope s__law_same) .none kV49 dc49 pm49 an49 cd49 ct49, kS, pS⟩ := ⟨⟨pg1, hd1, po1, sa1⟩, PySem.W.mg_of X G aC1, n1_known, n1_stored, n1_order, ⟨mk1, a5, i5, kc1⟩, ⟨pg2, hd2, po2, sa2⟩, PySem.W.mg_of X G aC2, n2_grammar, n2_kind, n2_known, n2_old, n2_base, n2_firsts, ⟨mk2, a24, i24, kc2⟩, ⟨pg3, hd3, po3, sa3⟩, PySem.W.mg_of X G aC3, n3_known, n3_base, ⟨mk3, a33, i33, kc3⟩, F1, PySem.W.mg_of X G a1, b1, F2, PySem.W.mg_of X G a2, b2, F3, PySem.W.mg_of X G a3, b3, F4, PySem.W.mg_of X G a4, b4, F5, ⟨a5, i5, k5⟩, b5, F6, ⟨a6, i6, k6⟩, b6, F7, ⟨a7, i7, k7⟩, b7, F8, ⟨a8, i8, k8⟩, b8, F9, ⟨a9, i9, k9⟩, b9, F10, PySem.W.mg_of X G a10, b10, F11, PySem.W.mg_of X G a11, b11, F12, PySem.W.mg_of X G a12, b12, F13, PySem.W.mg_of X G a13, b13, F14, PySem.W.mg_of X G a14, b14, F15, PySem.W.mg_of X G a15, b15, F16, PySem.W.mg_of X G a16, b16, F17, PySem.W.mg_of X G a17, b17, F18, PySem.W.mg_of X G a18, b18, F19, PySem.W.mg_of X G a19, b19, F20, PySem.W.mg_of X G a20, b20, F21, PySem.W.mg_of X G a21, b21, F22, PySem.W.mg_of X G a22, b22, F23, PySem.W.mg_of X G a23, b23, F24, ⟨a24, i24, k24⟩, b24, F25, ⟨a25, i25, k25⟩, b25, F26, ⟨a26, i26, k26⟩, b26, F27, ⟨a27, i27, k27⟩, b27, F28, ⟨a28, i28, k28⟩, b28, F29, ⟨a29, i29, k29⟩, b29, F30, PySem.W.mg_of X G a30, b30, F31, PySem.W.mg_of X G a31, b31, F32, PySem.W.mg_of X G a32, b32, F33, ⟨a33, i33, k33⟩, b33, F34, ⟨a34, i34, k34⟩, b34, F35, PySem.W.mg_of X G a35, b35, F36, PySem.W.mg_of X G a36, b36, F37, PySem.W.mg_of X G a37, b37, F38, PySem.W.mg_of X G a38, b38, F39, PySem.W.mg_of X G a39, b39, F40, PySem.W.mg_of X G a40, b40, F41, PySem.W.mg_of X G a41, b41, F42, PySem.W.mg_of X G a42, b42, F43, PySem.W.mg_of X G a43, b43, F44, PySem.W.mg_of X G a44, b44, F45, PySem.W.mg_of X G a45, b45, F46, PySem.W.mg_of X G a46, b46, F47, PySem.W.mg_of X G a47, b47, F48, PySem.W.mg_of X G a48, b48, F49, PySem.W.mg_of X G a49, b49, ⟨_, PySem.W.mg_of X G z_SMALL⟩, ⟨_, PySem.W.mg_of X G z_MOST_NAMES⟩, ⟨_, PySem.W.mg_of X G z_MOST_RULES⟩, ⟨_, PySem.W.mg_of X G z_MOST_ROW⟩, ⟨_, PySem.W.mg_of X G z_MOST_NORM⟩, ⟨_, PySem.W.mg_of X G z_MOST_ROW_NORM⟩, ⟨_, PySem.W.mg_of X G z_MOST_BAG_NORM⟩, PySem.W.mg_none_of X G z_len, PySem.W.mg_none_of X G z_set, PySem.W.mg_none_of X G z_all, PySem.W.mg_none_of X G z_any, PySem.W.mg_none_of X G z_list, PySem.W.mg_none_of X G z_enumerate, PySem.W.mg_none_of X G z_range, PySem.W.mg_none_of X G z_sum, PySem.W.mg_none_of X G z_sorted, PySem.W.mg_none_of X G z_dict, PySem.W.mg_none_of X G z_int, PySem.W.mg_none_of X G z_isinstance, PySem.W.mg_none_of X G z_max, PySem.W.mg_none_of X G z_min, PySem.W.mg_none_of X G z_tuple, PySem.W.mg_none_of X G z_bool, rfl⟩
  obtain ⟨pT, hC, hT, hP⟩ := OT f21 (PySem.W.mg_of X G a21) kS _ _ l21 rfl rfl
  have eP : pT = pS := by
    have := (hP _ _ _ _ tS).symm.trans t11
    cases this
    rfl
  subst eP
  refine ⟨_, [(kS, pT)], sp_law K ⟨C1, C2, C3, f1, PySem.W.fnOf "is_small" "is_small" (defArgs s_is_small) (defBody s_is_small) (defScope s_is_small) .none kV1 dc1 pm1 an1 cd1 ct1, f2, PySem.W.fnOf "is_name" "is_name" (defArgs s_is_name) (defBody s_is_name) (defScope s_is_name) .none kV2 dc2 pm2 an2 cd2 ct2, f3, PySem.W.fnOf "is_letter" "is_letter" (defArgs s_is_letter) (defBody s_is_letter) (defScope s_is_letter) .none kV3 dc3 pm3 an3 cd3 ct3, f4, PySem.W.fnOf "are_names" "are_names" (defArgs s_are_names) (defBody s_are_names) (defScope s_are_names) .none kV4 dc4 pm4 an4 cd4 ct4, f5, PySem.W.fnOf "__init__" "Grammar.__init__" (defArgs s_Grammar___init__) (defBody s_Grammar___init__) (defScope s_Grammar___init__) .none kV5 dc5 pm5 an5 cd5 ct5, f6, PySem.W.fnOf "lets_by" "Grammar.lets_by" (defArgs s_Grammar_lets_by) (defBody s_Grammar_lets_by) (defScope s_Grammar_lets_by) .none kV6 dc6 pm6 an6 cd6 ct6, f7, PySem.W.fnOf "names" "Grammar.names" (defArgs s_Grammar_names) (defBody s_Grammar_names) (defScope s_Grammar_names) .none kV7 dc7 pm7 an7 cd7 ct7, f8, PySem.W.fnOf "has" "Grammar.has" (defArgs s_Grammar_has) (defBody s_Grammar_has) (defScope s_Grammar_has) .none kV8 dc8 pm8 an8 cd8 ct8, f9, PySem.W.fnOf "rules_of" "Grammar.rules_of" (defArgs s_Grammar_rules_of) (defBody s_Grammar_rules_of) (defScope s_Grammar_rules_of) .none kV9 dc9 pm9 an9 cd9 ct9, f10, PySem.W.fnOf "look_at_names" "look_at_names" (defArgs s_look_at_names) (defBody s_look_at_names) (defScope s_look_at_names) .none kV10 dc10 pm10 an10 cd10 ct10, f11, PySem.W.fnOf "each_once" "each_once" (defArgs s_each_once) (defBody s_each_once) (defScope s_each_once) .none kV11 dc11 pm11 an11 cd11 ct11, f12, PySem.W.fnOf "row_steps" "row_steps" (defArgs s_row_steps) (defBody s_row_steps) (defScope s_row_steps) .none kV12 dc12 pm12 an12 cd12 ct12, f13, PySem.W.fnOf "bag_steps" "bag_steps" (defArgs s_bag_steps) (defBody s_bag_steps) (defScope s_bag_steps) .none kV13 dc13 pm13 an13 cd13 ct13, f14, PySem.W.fnOf "steps_of" "steps_of" (defArgs s_steps_of) (defBody s_steps_of) (defScope s_steps_of) .none kV14 dc14 pm14 an14 cd14 ct14, f15, PySem.W.fnOf "added_up" "added_up" (defArgs s_added_up) (defBody s_added_up) (defScope s_added_up) .none kV15 dc15 pm15 an15 cd15 ct15, f16, PySem.W.fnOf "norms" "norms" (defArgs s_norms) (defBody s_norms) (defScope s_norms) .none kV16 dc16 pm16 an16 cd16 ct16, f17, PySem.W.fnOf "lessening" "lessening" (defArgs s_lessening) (defBody s_lessening) (defScope s_lessening) .none kV17 dc17 pm17 an17 cd17 ct17, f18, PySem.W.fnOf "weighed" "weighed" (defArgs s_weighed) (defBody s_weighed) (defScope s_weighed) .none kV18 dc18 pm18 an18 cd18 ct18, f19, PySem.W.fnOf "put_out" "put_out" (defArgs s_put_out) (defBody s_put_out) (defScope s_put_out) .none kV19 dc19 pm19 an19 cd19 ct19, f20, PySem.W.fnOf "outs_of" "outs_of" (defArgs s_outs_of) (defBody s_outs_of) (defScope s_outs_of) .none kV20 dc20 pm20 an20 cd20 ct20, f21, PySem.W.fnOf "by_norms" "by_norms" (defArgs s_by_norms) (defBody s_by_norms) (defScope s_by_norms) .none kV21 dc21 pm21 an21 (.ref kS) ct21, f22, PySem.W.fnOf "base_of_norms" "base_of_norms" (defArgs s_base_of_norms) (defBody s_base_of_norms) (defScope s_base_of_norms) .none kV22 dc22 pm22 an22 cd22 ct22, f23, PySem.W.fnOf "without" "without" (defArgs s_without) (defBody s_without) (defScope s_without) .none kV23 dc23 pm23 an23 cd23 ct23, f24, PySem.W.fnOf "__init__" "Refining.__init__" (defArgs s_Refining___init__) (defBody s_Refining___init__) (defScope s_Refining___init__) .none kV24 dc24 pm24 an24 cd24 ct24, f25, PySem.W.fnOf "lessened" "Refining.lessened" (defArgs s_Refining_lessened) (defBody s_Refining_lessened) (defScope s_Refining_lessened) .none kV25 dc25 pm25 an25 cd25 ct25, f26, PySem.W.fnOf "candidates" "Refining.candidates" (defArgs s_Refining_candidates) (defBody s_Refining_candidates) (defScope s_Refining_candidates) .none kV26 dc26 pm26 an26 cd26 ct26, f27, PySem.W.fnOf "outs_by" "Refining.outs_by" (defArgs s_Refining_outs_by) (defBody s_Refining_outs_by) (defScope s_Refining_outs_by) .none kV27 dc27 pm27 an27 cd27 ct27, f28, PySem.W.fnOf "passes" "Refining.passes" (defArgs s_Refining_passes) (defBody s_Refining_passes) (defScope s_Refining_passes) .none kV28 dc28 pm28 an28 cd28 ct28, f29, PySem.W.fnOf "take" "Refining.take" (defArgs s_Refining_take) (defBody s_Refining_take) (defScope s_Refining_take) .none kV29 dc29 pm29 an29 cd29 ct29, f30, PySem.W.fnOf "refined" "refined" (defArgs s_refined) (defBody s_refined) (defScope s_refined) .none kV30 dc30 pm30 an30 cd30 ct30, f31, PySem.W.fnOf "bases_of" "bases_of" (defArgs s_bases_of) (defBody s_bases_of) (defScope s_bases_of) .none kV31 dc31 pm31 an31 cd31 ct31, f32, PySem.W.fnOf "made_of" "made_of" (defArgs s_made_of) (defBody s_made_of) (defScope s_made_of) .none kV32 dc32 pm32 an32 cd32 ct32, f33, PySem.W.fnOf "__init__" "Made.__init__" (defArgs s_Made___init__) (defBody s_Made___init__) (defScope s_Made___init__) .none kV33 dc33 pm33 an33 cd33 ct33, f34, PySem.W.fnOf "out" "Made.out" (defArgs s_Made_out) (defBody s_Made_out) (defScope s_Made_out) .none kV34 dc34 pm34 an34 cd34 ct34, f35, PySem.W.fnOf "like_so_far" "like_so_far" (defArgs s_like_so_far) (defBody s_like_so_far) (defScope s_like_so_far) .none kV35 dc35 pm35 an35 cd35 ct35, f36, PySem.W.fnOf "common_begin" "common_begin" (defArgs s_common_begin) (defBody s_common_begin) (defScope s_common_begin) .none kV36 dc36 pm36 an36 cd36 ct36, f37, PySem.W.fnOf "common_end" "common_end" (defArgs s_common_end) (defBody s_common_end) (defScope s_common_end) .none kV37 dc37 pm37 an37 cd37 ct37, f38, PySem.W.fnOf "_law_cell_at" "_law_cell_at" (defArgs s__law_cell_at) (defBody s__law_cell_at) (defScope s__law_cell_at) .none kV38 dc38 pm38 an38 cd38 ct38, f39, PySem.W.fnOf "_law_well" "_law_well" (defArgs s__law_well) (defBody s__law_well) (defScope s__law_well) .none kV39 dc39 pm39 an39 cd39 ct39, f40, PySem.W.fnOf "_law_draw" "_law_draw" (defArgs s__law_draw) (defBody s__law_draw) (defScope s__law_draw) .none kV40 dc40 pm40 an40 cd40 ct40, f41, PySem.W.fnOf "_law_one" "_law_one" (defArgs s__law_one) (defBody s__law_one) (defScope s__law_one) .none kV41 dc41 pm41 an41 cd41 ct41, f42, PySem.W.fnOf "_law_names" "_law_names" (defArgs s__law_names) (defBody s__law_names) (defScope s__law_names) .none kV42 dc42 pm42 an42 cd42 ct42, f43, PySem.W.fnOf "_law_signs" "_law_signs" (defArgs s__law_signs) (defBody s__law_signs) (defScope s__law_signs) .none kV43 dc43 pm43 an43 cd43 ct43, f44, PySem.W.fnOf "_law_mixed" "_law_mixed" (defArgs s__law_mixed) (defBody s__law_mixed) (defScope s__law_mixed) .none kV44 dc44 pm44 an44 cd44 ct44, f45, PySem.W.fnOf "_law_rules" "_law_rules" (defArgs s__law_rules) (defBody s__law_rules) (defScope s__law_rules) .none kV45 dc45 pm45 an45 cd45 ct45, f46, PySem.W.fnOf "_law_kin" "_law_kin" (defArgs s__law_kin) (defBody s__law_kin) (defScope s__law_kin) .none kV46 dc46 pm46 an46 cd46 ct46, f47, PySem.W.fnOf "_law_grammar" "_law_grammar" (defArgs s__law_grammar) (defBody s__law_grammar) (defScope s__law_grammar) .none kV47 dc47 pm47 an47 cd47 ct47, f48, PySem.W.fnOf "_law_row" "_law_row" (defArgs s__law_row) (defBody s__law_row) (defScope s__law_row) .none kV48 dc48 pm48 an48 cd48 ct48, f49, PySem.W.fnOf "_law_same" "_law_same" (defArgs s__law_same) (defBody s__law_same) (defScope s__law_same) .none kV49 dc49 pm49 an49 cd49 ct49, kS, pT⟩, ?_, ?_, ?_, fun s v => .of_eq rfl, ?_, fun base _ _ hB => ok_law F50 T (hB _ List.mem_cons_self)⟩
  · intro p hp; rw [List.mem_singleton.mp hp]; exact hT
  · intro p hp; rw [List.mem_singleton.mp hp]; exact tP
  · intro p hp; rw [List.mem_singleton.mp hp]; exact hC
  · intro H a ns hl _ hE hS
    exact ⟨a, ns, rfl, hS, hl, fun p hp => by rw [List.mem_singleton.mp hp]; exact TabS.nil (hE _ List.mem_cons_self), fun _ => rfl⟩
end SG
open PySem PySem.W PyProof.Rows
set_option maxRecDepth 100000 in
set_option maxHeartbeats 0 in
theorem PySem.Challenge.cw_samegoing_k68_common_beginnings_and_ends_holds : PySem.Challenge.rw_samegoing_k68_common_beginnings_and_ends.Holds := by
  w_on; o_law; k_head; (case hw => w_witness2)
  k_fill
  refine SG.walk_own2 (l := PySem.Challenge.rw_samegoing_k68_common_beginnings_and_ends) (x := "_law_script") (n := 63) (CX := fun _ => L2.CX0) (k := 15) (n2 := "by_norms") rfl (by decide) rfl ⟨rfl, by decide, by decide⟩ (by decide +kernel) (fun w h Y => PySem.W.km_in_of Y) ?F (fun _ _ _ _ _ z => z)
  case F =>
    intro w mg fa h _ KX G hmg OT
    refine' SG.all_mk KX G hmg OT ?aC1 ?pg1 ?hd1 ?po1 ?sa1 ?mk1 ?kc1 ?n1_known ?n1_stored ?n1_order ?aC2 ?pg2 ?hd2 ?po2 ?sa2 ?mk2 ?kc2 ?n2_grammar ?n2_kind ?n2_known ?n2_old ?n2_base ?n2_firsts ?aC3 ?pg3 ?hd3 ?po3 ?sa3 ?mk3 ?kc3 ?n3_known ?n3_base ?a1 ?l1 ?c1 ?k1 ?a2 ?l2 ?c2 ?k2 ?a3 ?l3 ?c3 ?k3 ?a4 ?l4 ?c4 ?k4 ?a5 ?i5 ?l5 ?c5 ?k5 ?a6 ?i6 ?l6 ?c6 ?k6 ?a7 ?i7 ?l7 ?c7 ?k7 ?a8 ?i8 ?l8 ?c8 ?k8 ?a9 ?i9 ?l9 ?c9 ?k9 ?a10 ?l10 ?c10 ?k10 ?a11 ?l11 ?c11 ?k11 ?a12 ?l12 ?c12 ?k12 ?a13 ?l13 ?c13 ?k13 ?a14 ?l14 ?c14 ?k14 ?a15 ?l15 ?c15 ?k15 ?a16 ?l16 ?c16 ?k16 ?a17 ?l17 ?c17 ?k17 ?a18 ?l18 ?c18 ?k18 ?a19 ?l19 ?c19 ?k19 ?a20 ?l20 ?c20 ?k20 ?a21 ?l21 ?c21 ?k21 ?a22 ?l22 ?c22 ?k22 ?a23 ?l23 ?c23 ?k23 ?a24 ?i24 ?l24 ?c24 ?k24 ?a25 ?i25 ?l25 ?c25 ?k25 ?a26 ?i26 ?l26 ?c26 ?k26 ?a27 ?i27 ?l27 ?c27 ?k27 ?a28 ?i28 ?l28 ?c28 ?k28 ?a29 ?i29 ?l29 ?c29 ?k29 ?a30 ?l30 ?c30 ?k30 ?a31 ?l31 ?c31 ?k31 ?a32 ?l32 ?c32 ?k32 ?a33 ?i33 ?l33 ?c33 ?k33 ?a34 ?i34 ?l34 ?c34 ?k34 ?a35 ?l35 ?c35 ?k35 ?a36 ?l36 ?c36 ?k36 ?a37 ?l37 ?c37 ?k37 ?a38 ?l38 ?c38 ?k38 ?a39 ?l39 ?c39 ?k39 ?a40 ?l40 ?c40 ?k40 ?a41 ?l41 ?c41 ?k41 ?a42 ?l42 ?c42 ?k42 ?a43 ?l43 ?c43 ?k43 ?a44 ?l44 ?c44 ?k44 ?a45 ?l45 ?c45 ?k45 ?a46 ?l46 ?c46 ?k46 ?a47 ?l47 ?c47 ?k47 ?a48 ?l48 ?c48 ?k48 ?a49 ?l49 ?c49 ?k49 ?a50 ?l50 ?c50 ?k50 ?z_SMALL ?z_MOST_NAMES ?z_MOST_RULES ?z_MOST_ROW ?z_MOST_NORM ?z_MOST_ROW_NORM ?z_MOST_BAG_NORM ?tS ?t11 ?tP ?z_len ?z_set ?z_all ?z_any ?z_list ?z_enumerate ?z_range ?z_sum ?z_sorted ?z_dict ?z_int ?z_isinstance ?z_max ?z_min ?z_tuple ?z_bool
    (case aC1 => k_is)
    (case pg1 => k_is)
    (case hd1 => k_is)
    (case po1 => k_is)
    (case sa1 => k_is)
    (case mk1 => k_is)
    (case kc1 => k_is)
    (case n1_known => k_is)
    (case n1_stored => k_is)
    (case n1_order => k_is)
    (case aC2 => k_is)
    (case pg2 => k_is)
    (case hd2 => k_is)
    (case po2 => k_is)
    (case sa2 => k_is)
    (case mk2 => k_is)
    (case kc2 => k_is)
    (case n2_grammar => k_is)
    (case n2_kind => k_is)
    (case n2_known => k_is)
    (case n2_old => k_is)
    (case n2_base => k_is)
    (case n2_firsts => k_is)
    (case aC3 => k_is)
    (case pg3 => k_is)
    (case hd3 => k_is)
    (case po3 => k_is)
    (case sa3 => k_is)
    (case mk3 => k_is)
    (case kc3 => k_is)
    (case n3_known => k_is)
    (case n3_base => k_is)
    (case a1 => k_is)
    (case l1 => k_is)
    (case c1 => k_is)
    (case k1 => k_is)
    (case a2 => k_is)
    (case l2 => k_is)
    (case c2 => k_is)
    (case k2 => k_is)
    (case a3 => k_is)
    (case l3 => k_is)
    (case c3 => k_is)
    (case k3 => k_is)
    (case a4 => k_is)
    (case l4 => k_is)
    (case c4 => k_is)
    (case k4 => k_is)
    (case a5 => k_is)
    (case i5 => k_is)
    (case l5 => k_is)
    (case c5 => k_is)
    (case k5 => k_is)
    (case a6 => k_is)
    (case i6 => k_is)
    (case l6 => k_is)
    (case c6 => k_is)
    (case k6 => k_is)
    (case a7 => k_is)
    (case i7 => k_is)
    (case l7 => k_is)
    (case c7 => k_is)
    (case k7 => k_is)
    (case a8 => k_is)
    (case i8 => k_is)
    (case l8 => k_is)
    (case c8 => k_is)
    (case k8 => k_is)
    (case a9 => k_is)
    (case i9 => k_is)
    (case l9 => k_is)
    (case c9 => k_is)
    (case k9 => k_is)
    (case a10 => k_is)
    (case l10 => k_is)
    (case c10 => k_is)
    (case k10 => k_is)
    (case a11 => k_is)
    (case l11 => k_is)
    (case c11 => k_is)
    (case k11 => k_is)
    (case a12 => k_is)
    (case l12 => k_is)
    (case c12 => k_is)
    (case k12 => k_is)
    (case a13 => k_is)
    (case l13 => k_is)
    (case c13 => k_is)
    (case k13 => k_is)
    (case a14 => k_is)
    (case l14 => k_is)
    (case c14 => k_is)
    (case k14 => k_is)
    (case a15 => k_is)
    (case l15 => k_is)
    (case c15 => k_is)
    (case k15 => k_is)
    (case a16 => k_is)
    (case l16 => k_is)
    (case c16 => k_is)
    (case k16 => k_is)
    (case a17 => k_is)
    (case l17 => k_is)
    (case c17 => k_is)
    (case k17 => k_is)
    (case a18 => k_is)
    (case l18 => k_is)
    (case c18 => k_is)
    (case k18 => k_is)
    (case a19 => k_is)
    (case l19 => k_is)
    (case c19 => k_is)
    (case k19 => k_is)
    (case a20 => k_is)
    (case l20 => k_is)
    (case c20 => k_is)
    (case k20 => k_is)
    (case a21 => k_is)
    (case l21 => k_is)
    (case c21 => k_is)
    (case k21 => k_is)
    (case a22 => k_is)
    (case l22 => k_is)
    (case c22 => k_is)
    (case k22 => k_is)
    (case a23 => k_is)
    (case l23 => k_is)
    (case c23 => k_is)
    (case k23 => k_is)
    (case a24 => k_is)
    (case i24 => k_is)
    (case l24 => k_is)
    (case c24 => k_is)
    (case k24 => k_is)
    (case a25 => k_is)
    (case i25 => k_is)
    (case l25 => k_is)
    (case c25 => k_is)
    (case k25 => k_is)
    (case a26 => k_is)
    (case i26 => k_is)
    (case l26 => k_is)
    (case c26 => k_is)
    (case k26 => k_is)
    (case a27 => k_is)
    (case i27 => k_is)
    (case l27 => k_is)
    (case c27 => k_is)
    (case k27 => k_is)
    (case a28 => k_is)
    (case i28 => k_is)
    (case l28 => k_is)
    (case c28 => k_is)
    (case k28 => k_is)
    (case a29 => k_is)
    (case i29 => k_is)
    (case l29 => k_is)
    (case c29 => k_is)
    (case k29 => k_is)
    (case a30 => k_is)
    (case l30 => k_is)
    (case c30 => k_is)
    (case k30 => k_is)
    (case a31 => k_is)
    (case l31 => k_is)
    (case c31 => k_is)
    (case k31 => k_is)
    (case a32 => k_is)
    (case l32 => k_is)
    (case c32 => k_is)
    (case k32 => k_is)
    (case a33 => k_is)
    (case i33 => k_is)
    (case l33 => k_is)
    (case c33 => k_is)
    (case k33 => k_is)
    (case a34 => k_is)
    (case i34 => k_is)
    (case l34 => k_is)
    (case c34 => k_is)
    (case k34 => k_is)
    (case a35 => k_is)
    (case l35 => k_is)
    (case c35 => k_is)
    (case k35 => k_is)
    (case a36 => k_is)
    (case l36 => k_is)
    (case c36 => k_is)
    (case k36 => k_is)
    (case a37 => k_is)
    (case l37 => k_is)
    (case c37 => k_is)
    (case k37 => k_is)
    (case a38 => k_is)
    (case l38 => k_is)
    (case c38 => k_is)
    (case k38 => k_is)
    (case a39 => k_is)
    (case l39 => k_is)
    (case c39 => k_is)
    (case k39 => k_is)
    (case a40 => k_is)
    (case l40 => k_is)
    (case c40 => k_is)
    (case k40 => k_is)
    (case a41 => k_is)
    (case l41 => k_is)
    (case c41 => k_is)
    (case k41 => k_is)
    (case a42 => k_is)
    (case l42 => k_is)
    (case c42 => k_is)
    (case k42 => k_is)
    (case a43 => k_is)
    (case l43 => k_is)
    (case c43 => k_is)
    (case k43 => k_is)
    (case a44 => k_is)
    (case l44 => k_is)
    (case c44 => k_is)
    (case k44 => k_is)
    (case a45 => k_is)
    (case l45 => k_is)
    (case c45 => k_is)
    (case k45 => k_is)
    (case a46 => k_is)
    (case l46 => k_is)
    (case c46 => k_is)
    (case k46 => k_is)
    (case a47 => k_is)
    (case l47 => k_is)
    (case c47 => k_is)
    (case k47 => k_is)
    (case a48 => k_is)
    (case l48 => k_is)
    (case c48 => k_is)
    (case k48 => k_is)
    (case a49 => k_is)
    (case l49 => k_is)
    (case c49 => k_is)
    (case k49 => k_is)
    (case a50 => k_is)
    (case l50 => k_is)
    (case c50 => k_is)
    (case k50 => k_is)
    (case z_SMALL => k_is)
    (case z_MOST_NAMES => k_is)
    (case z_MOST_RULES => k_is)
    (case z_MOST_ROW => k_is)
    (case z_MOST_NORM => k_is)
    (case z_MOST_ROW_NORM => k_is)
    (case z_MOST_BAG_NORM => k_is)
    (case tS => k_is)
    (case t11 => rfl)
    (case tP => kernel_rfl)
    (case z_len => k_is)
    (case z_set => k_is)
    (case z_all => k_is)
    (case z_any => k_is)
    (case z_list => k_is)
    (case z_enumerate => k_is)
    (case z_range => k_is)
    (case z_sum => k_is)
    (case z_sorted => k_is)
    (case z_dict => k_is)
    (case z_int => k_is)
    (case z_isinstance => k_is)
    (case z_max => k_is)
    (case z_min => k_is)
    (case z_tuple => k_is)
    (case z_bool => k_is)
