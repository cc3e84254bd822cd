import PyProof.Rows.All
import Wide.All
import OpenK.AllK
import Wide.FinOn
import HandS.ForMost
import HandS.Flow
import HandS.Style
import HandS.Deep
import HandS.DeepEq
import HandS.DictComp
import HandS.Evl
import HandS.Wide
import KE.SortData
import KE.DataEq
import HandS.Walk
import HandS.Strs
import HandS.SetIn
import HandS.IsInst
import HandS.More
import HandS.Iter
import HandS.Finally
import KE.SortKeyHeap
import HandS.Lambda
import HandS.SortKw
import HandS.EndOwn
import KE.KDictKeyed
import PySem.Challenge.RW_samegoing_k57_words_that_part
set_option Elab.async false
set_option linter.all false
set_option maxRecDepth 100000
set_option maxHeartbeats 4000000
/-! rules and short words of my own over the hand layer -/
namespace SG
open PySem PySem.Spec PyProof.Rows L2

/-! ### sorted of data, any length -/
theorem each_of_vals {h : Heap} : ∀ {xs : List V} {us : List Value} {ds : List PyData}, Vals xs us → xs.length = ds.length → PySem.W.EachIs (fun (u : Value) (b : V × PyData) => RelV b.1 u) us (xs.zip ds)
  | [], _, [], .nil, _ => .nil
  | x :: xs, _, d :: ds, .cons r t, hl => .cons r (each_of_vals (h := h) t (by simpa using hl))
theorem each_reads {X : Cx} {pins : List (Addr × Obj)} {σ : L2.St} {H : Hp} {s : Shared} (I : Inv X pins σ H s) : ∀ {xs : List V} {us : List Value} {ds : List PyData}, Vals xs us → DpAll X.K H xs ds →
    PySem.W.EachIs (fun (u : Value) (b : V × PyData) => ∃ as, Reads s.heap u b.2 as) us (xs.zip ds)
  | _, _, _, .nil, .nil => .nil
  | _, _, _, .cons r t, .cons h1 h2 => .cons (Dp.reads I _ _ _ h1 r) (each_reads I t h2)
theorem dpAll_len {K : PySem.W.Frag} {H : Hp} : ∀ {xs : List V} {ds : List PyData}, DpAll K H xs ds → xs.length = ds.length
  | _, _, .nil => rfl
  | _, _, .cons _ t => by rw [List.length_cons, List.length_cons, dpAll_len t]
theorem dpAll_zip {K : PySem.W.Frag} {H : Hp} : ∀ {xs : List V} {ds : List PyData}, DpAll K H xs ds → ∀ p ∈ xs.zip ds, Dp K H p.1 p.2
  | _, _, .nil, p, hp => by simp at hp
  | _, _, .cons h t, p, hp => by
    rw [List.zip_cons_cons] at hp
    rcases List.mem_cons.mp hp with rfl | hp
    · exact h
    · exact dpAll_zip t p hp
theorem dpAll_of_zip {K : PySem.W.Frag} {H : Hp} : ∀ {ps : List (V × PyData)}, (∀ p ∈ ps, Dp K H p.1 p.2) → DpAll K H (ps.map (·.1)) (ps.map (·.2))
  | [], _ => .nil
  | p :: ps, h => .cons (h p (by simp)) (dpAll_of_zip fun q hq => h q (by simp [hq]))
theorem vals_of_each : ∀ {us : List Value} {bs : List (V × PyData)}, PySem.W.EachIs (fun (u : Value) (b : V × PyData) => RelV b.1 u) us bs → Vals (bs.map (·.1)) us
  | _, _, .nil => .nil
  | _, _, .cons r t => .cons r (vals_of_each t)
/-- the sorted data -/
def dsort (ds : List PyData) : List PyData := ds.mergeSort (PySem.W.dataLe false id)
def rSortedX (K : PySem.W.Frag) : List V → Hp → VK → Prop := fun vs H Q => ∃ (a : Addr) (xs : List V) (ds : List PyData), vs = [V.ref a] ∧ SqL K H a xs ∧ DpAll K H xs ds ∧ PySem.W.AllAlike ds ∧ PySem.W.Sortable ds ∧ (∀ d ∈ ds, d.depth ≤ 8) ∧
  ∀ (ys : List V) (p : Addr), DpAll K H ys (dsort ds) → ys.Perm xs → H p = none → Q (.ref p) (upd H p (.lst ys))
theorem cr_sortedX {X : Cx} (hu : X.A.units + 64 < cLine) : CallR X (.builtin "sorted") (rSortedX X.K) := by
  intro pins s σ H vs us Q I r h
  obtain ⟨a, xs, ds, rfl, hs, hd, hal, hso, hdep, q⟩ := h
  obtain ⟨its, rv, hl, hz⟩ := I.list hs
  rw [Vals.ref1 r]
  have hlen := dpAll_len hd
  have hm : (xs.zip ds).map Prod.snd = ds := List.map_snd_zip (by omega)
  have hm1 : (xs.zip ds).map Prod.fst = xs := List.map_fst_zip (by omega)
  refine PySem.W.sorted_data (enc := Prod.snd) hl.isList (each_of_vals (h := s.heap) rv hlen) (each_reads I rv hd) (by rw [hm]; exact hal) (by rw [hm]; exact hso)
    (by rw [List.length_zip]; omega) (fun b hb => ?_) fun out ho hE => ?_
  · have := hdep b.2 (by rw [← hm]; exact List.mem_map_of_mem hb)
    omega
  · obtain ⟨ep, he'⟩ := PyProof.Rows.sortedAll_at s.heap its (List.toArray out)
    have hp := List.mergeSort_perm (xs.zip ds) (PySem.W.dataLe false Prod.snd)
    have e2 : ((xs.zip ds).mergeSort (PySem.W.dataLe false Prod.snd)).map (·.2) = dsort ds := by
      have := PySem.W.sort_maps (r := PySem.W.dataLe false (Prod.snd : V × PyData → PyData)) (s := PySem.W.dataLe false id) (Prod.snd : V × PyData → PyData) (l := xs.zip ds) (fun a _ b _ => rfl)
      rw [hm] at this
      exact this
    have hD : DpAll X.K H (((xs.zip ds).mergeSort (PySem.W.dataLe false Prod.snd)).map (·.1)) (dsort ds) := by
      rw [← e2]
      exact dpAll_of_zip fun p hpp => dpAll_zip hd p (hp.mem_iff.mp hpp)
    have hP : (((xs.zip ds).mergeSort (PySem.W.dataLe false Prod.snd)).map (·.1)).Perm xs := by
      have := hp.map (·.1)
      rw [hm1] at this
      exact this
    have hlenY : (((xs.zip ds).mergeSort (PySem.W.dataLe false Prod.snd)).map (·.1)).length ≤ sizeLine := by rw [hP.length_eq]; exact hz
    exact ⟨.ref _, upd H (s.heap.objs.size + 1) (.lst _), I.laid (t' := s.toks) (fun _ _ => PyProof.Rows.sortedAll_old) (Nat.le_succ _) ⟨hlenY, out, ep, vals_of_each hE, by simpa using he'⟩, rfl, q _ _ hD hP (I.hok.fresh (Nat.le_succ _))⟩

/-! ### == != in, not in of data -/
section
variable {K : PySem.W.Frag} {H : Hp}
mutual
theorem dp_plain : ∀ (d : PyData) (v : V), Dp K H v d → d.plain = true
  | .none, _, _ => by rw [PyData.plain]
  | .bool _, _, _ => by rw [PyData.plain]
  | .int _, _, _ => by rw [PyData.plain]
  | .str _, _, _ => by rw [PyData.plain]
  | .list xs, _, h => by
    cases h with
    | lst _ ha =>
      rw [PyData.plain]
      exact dpAll_plain xs _ ha
  | .tuple xs, _, h => by
    cases h with
    | tup _ ha =>
      rw [PyData.plain]
      exact dpAll_plain xs _ ha
  | .dict _, _, h => by cases h
theorem dpAll_plain : ∀ (ds : List PyData) (vs : List V), DpAll K H vs ds → PyData.plainAll ds = true
  | [], _, _ => by rw [PyData.plainAll]
  | d :: ds, _, h => by
    cases h with
    | cons h1 h2 => rw [PyData.plainAll, dp_plain d _ h1, dpAll_plain ds _ h2]; rfl
end
end
def rEqP (K : PySem.W.Frag) : R2 := fun x y H Q => ∃ d e, Dp K H x d ∧ Dp K H y e ∧ d.depth ≤ 60 ∧ Q (.bl (PyData.eqv d e)) H
def rNeP (K : PySem.W.Frag) : R2 := fun x y H Q => ∃ d e, Dp K H x d ∧ Dp K H y e ∧ d.depth ≤ 60 ∧ Q (.bl (!PyData.eqv d e)) H
theorem op_eqP {X : Cx} (hu : X.A.units + 64 < cLine) : OpR X (compareOp .Eq) (rEqP X.K) := by
  intro pins s σ H x y v u Q I rx ry h
  obtain ⟨d, e, hd, he, sd, q⟩ := h
  obtain ⟨as, r1⟩ := Dp.reads I d x v hd rx
  obtain ⟨bs, r2⟩ := Dp.reads I e y u he ry
  exact SeqAt.eq_plain r1 r2 (dp_plain _ _ hd) (dp_plain _ _ he) (by omega) ⟨.bl _, H, I, rfl, q⟩
theorem op_neP {X : Cx} (hu : X.A.units + 64 < cLine) : OpR X (compareOp .NotEq) (rNeP X.K) := by
  intro pins s σ H x y v u Q I rx ry h
  obtain ⟨d, e, hd, he, sd, q⟩ := h
  obtain ⟨as, r1⟩ := Dp.reads I d x v hd rx
  obtain ⟨bs, r2⟩ := Dp.reads I e y u he ry
  exact SeqAt.ne_plain r1 r2 (dp_plain _ _ hd) (dp_plain _ _ he) (by omega) ⟨.bl _, H, I, rfl, q⟩
/-- x in a list of data | a tuple -/
def rInP (K : PySem.W.Frag) : R2 := fun x y H Q => ∃ d ds, Dp K H x d ∧ (Dp K H y (.list ds) ∨ Dp K H y (.tuple ds)) ∧ d.depth ≤ 60 ∧ Q (.bl (ds.any fun z => PyData.eqv z d)) H
def rNotInP (K : PySem.W.Frag) : R2 := fun x y H Q => ∃ d ds, Dp K H x d ∧ (Dp K H y (.list ds) ∨ Dp K H y (.tuple ds)) ∧ d.depth ≤ 60 ∧ Q (.bl (!ds.any fun z => PyData.eqv z d)) H
theorem op_inP {X : Cx} (hu : X.A.units + 64 < cLine) : OpR X (compareOp .In) (rInP X.K) := by
  intro pins s σ H x y v u Q I rx ry h
  obtain ⟨d, ds, hd, he, sd, q⟩ := h
  obtain ⟨as, r1⟩ := Dp.reads I d x v hd rx
  rcases he with he | he
  · obtain ⟨bs, r2⟩ := Dp.reads I (.list ds) y u he ry
    have hp := dp_plain _ _ he
    rw [PyData.plain] at hp
    exact SeqAt.in_list_data r2 r1 hp (dp_plain _ _ hd) (by omega) ⟨.bl _, H, I, rfl, q⟩
  · obtain ⟨bs, r2⟩ := Dp.reads I (.tuple ds) y u he ry
    have hp := dp_plain _ _ he
    rw [PyData.plain] at hp
    exact SeqAt.in_tuple_data r2 r1 hp (dp_plain _ _ hd) (by omega) ⟨.bl _, H, I, rfl, q⟩
theorem op_notInP {X : Cx} (hu : X.A.units + 64 < cLine) : OpR X (compareOp .NotIn) (rNotInP X.K) := by
  intro pins s σ H x y v u Q I rx ry h
  obtain ⟨d, ds, hd, he, sd, q⟩ := h
  obtain ⟨as, r1⟩ := Dp.reads I d x v hd rx
  rcases he with he | he
  · obtain ⟨bs, r2⟩ := Dp.reads I (.list ds) y u he ry
    have hp := dp_plain _ _ he
    rw [PyData.plain] at hp
    exact SeqAt.notIn_list_data r2 r1 hp (dp_plain _ _ hd) (by omega) ⟨.bl _, H, I, rfl, q⟩
  · obtain ⟨bs, r2⟩ := Dp.reads I (.tuple ds) y u he ry
    have hp := dp_plain _ _ he
    rw [PyData.plain] at hp
    exact SeqAt.notIn_tuple_data r2 r1 hp (dp_plain _ _ hd) (by omega) ⟨.bl _, H, I, rfl, q⟩

/-! ### encodings of plain data: what is equal in Python is equal -/
def Enc {α : Type} [DecidableEq α] (e : α → PyData) : Prop := ∀ a b, PyData.eqv (e a) (e b) = decide (a = b)
theorem enc_str : Enc PyData.str := fun a b => by
  rw [PyData.eqv]
  by_cases h : a = b
  · simp [h]
  · simp [h]
theorem enc_int : Enc PyData.int := fun a b => by
  rw [PyData.eqv]
  by_cases h : a = b
  · simp [h]
  · simp [h]
section
variable {α β γ : Type} [DecidableEq α] [DecidableEq β] [DecidableEq γ] {ea : α → PyData} {eb : β → PyData} {ec : γ → PyData}
def eL {α : Type} (e : α → PyData) (xs : List α) : PyData := .list (xs.map e)
def eT {α : Type} (e : α → PyData) (xs : List α) : PyData := .tuple (xs.map e)
def e2 {α β : Type} (ea : α → PyData) (eb : β → PyData) (p : α × β) : PyData := .tuple [ea p.1, eb p.2]
def e3 {α β γ : Type} (ea : α → PyData) (eb : β → PyData) (ec : γ → PyData) (p : α × β × γ) : PyData := .tuple [ea p.1, eb p.2.1, ec p.2.2]
theorem eqvAll_enc (h : Enc ea) : ∀ xs ys : List α, PyData.eqvAll (xs.map ea) (ys.map ea) = decide (xs = ys)
  | [], [] => by simp [PyData.eqvAll]
  | [], y :: ys => by simp [PyData.eqvAll]
  | x :: xs, [] => by simp [PyData.eqvAll]
  | x :: xs, y :: ys => by
    rw [List.map_cons, List.map_cons, PyData.eqvAll, h x y, eqvAll_enc h xs ys]
    by_cases h1 : x = y <;> by_cases h2 : xs = ys <;> simp [h1, h2]
theorem enc_L (h : Enc ea) : Enc (eL ea) := fun xs ys => by
  unfold eL
  rw [PyData.eqv, eqvAll_enc h]
theorem enc_T (h : Enc ea) : Enc (eT ea) := fun xs ys => by
  unfold eT
  rw [PyData.eqv, eqvAll_enc h]
theorem enc_2 (h : Enc ea) (h' : Enc eb) : Enc (e2 ea eb) := fun x y => by
  unfold e2
  simp only [PyData.eqv, PyData.eqvAll, h x.1 y.1, h' x.2 y.2, Bool.and_true]
  by_cases h1 : x.1 = y.1 <;> by_cases h2 : x.2 = y.2 <;> simp [h1, h2, Prod.ext_iff]
theorem enc_3 (h : Enc ea) (h' : Enc eb) (h'' : Enc ec) : Enc (e3 ea eb ec) := fun x y => by
  unfold e3
  simp only [PyData.eqv, PyData.eqvAll, h x.1 y.1, h' x.2.1 y.2.1, h'' x.2.2 y.2.2, Bool.and_true]
  by_cases h1 : x.1 = y.1 <;> by_cases h2 : x.2.1 = y.2.1 <;> by_cases h3 : x.2.2 = y.2.2 <;> simp [h1, h2, h3, Prod.ext_iff]
theorem any_enc (h : Enc ea) (xs : List α) (a : α) : ((xs.map ea).any fun z => PyData.eqv z (ea a)) = decide (a ∈ xs) := by
  induction xs with
  | nil => rfl
  | cons x r ih =>
    rw [List.map_cons, List.any_cons, ih, h x a]
    by_cases h1 : x = a
    · simp [h1]
    · have h2 : ¬ a = x := fun e => h1 e.symm
      simp [h1, h2]
/-- depths -/
def Dep {α : Type} (e : α → PyData) (n : Nat) : Prop := ∀ a, (e a).depth ≤ n
theorem dep_str : Dep PyData.str 0 := fun a => by rw [PyData.depth]; exact Nat.le_refl _
theorem dep_int : Dep PyData.int 0 := fun a => by rw [PyData.depth]; exact Nat.le_refl _
theorem depAll {n : Nat} (h : Dep ea n) : ∀ xs : List α, PyData.depthAll (xs.map ea) ≤ n
  | [] => by rw [List.map_nil, PyData.depthAll]; exact Nat.zero_le _
  | x :: xs => by rw [List.map_cons, PyData.depthAll]; exact Nat.max_le.mpr ⟨h x, depAll h xs⟩
theorem dep_L {n : Nat} (h : Dep ea n) : Dep (eL ea) (n + 1) := fun xs => by
  unfold eL
  rw [PyData.depth]
  have := depAll h xs
  omega
theorem dep_T {n : Nat} (h : Dep ea n) : Dep (eT ea) (n + 1) := fun xs => by
  unfold eT
  rw [PyData.depth]
  have := depAll h xs
  omega
theorem dep_2 {n m : Nat} (h : Dep ea n) (h' : Dep eb m) : Dep (e2 ea eb) (max n m + 1) := fun p => by
  unfold e2
  simp only [PyData.depth, PyData.depthAll]
  have := h p.1
  have := h' p.2
  omega
theorem dep_3 {n m k : Nat} (h : Dep ea n) (h' : Dep eb m) (h'' : Dep ec k) : Dep (e3 ea eb ec) (max n (max m k) + 1) := fun p => by
  unfold e3
  simp only [PyData.depth, PyData.depthAll]
  have := h p.1
  have := h' p.2.1
  have := h'' p.2.2
  omega
end

/-! ### two dicts of data that are equal -/
def EqEnt (K : PySem.W.Frag) (H : Hp) (ls : List (Key × V)) (p : Key × V) : Prop := ∃ u d e, valV ls p.1 = some u ∧ Dp K H p.2 d ∧ Dp K H u e ∧ d.depth ≤ 60 ∧ PyData.eqv d e = true
theorem hits_data {X : Cx} {pins : List (Addr × Obj)} {σ : L2.St} {H : Hp} {s : Shared} (I : Inv X pins σ H s) (hu : X.A.in1.units + 64 < cLine) {ls : List (Key × V)} {vb : List (Key × Value)} (rb : KV ls vb) :
    ∀ {ks : List (Key × V)} {va : List (Key × Value)}, KV ks va → (∀ p ∈ ks, EqEnt X.K H ls p) → PySem.W.KeqHits X.A.in1 s vb va true := by
  intro ks va ra
  unfold KV at ra
  induction ra with
  | nil => intro _; exact .nil
  | @cons p q ps qs h t k =>
    intro hp
    obtain ⟨h1, h2⟩ := h
    obtain ⟨u, d, e, ev, hd, he, sd, eq⟩ := hp p List.mem_cons_self
    have rr : RelO (some u) (valueAt vb p.1) := by rw [← ev]; exact rb.val p.1
    obtain ⟨y, hy, ry⟩ := rr.some_of
    obtain ⟨key, v⟩ := q
    have h1' : p.1 = key := h1
    rw [h1'] at hy
    obtain ⟨as, r1⟩ := Dp.reads I d _ _ hd h2
    obtain ⟨bs, r2⟩ := Dp.reads I e _ _ he ry
    have ea := SeqAt.eqAt_plain d e X.A.in1 s _ _ _ _ r1 r2 (dp_plain _ _ hd) (dp_plain _ _ he) (by omega)
    rw [eq] at ea
    show PySem.W.KeqHits X.A.in1 s vb ((key, v) :: qs) (true && true)
    exact .hit hy ea (k fun p' hm => hp p' (List.mem_cons_of_mem _ hm))
def rEqW (K : PySem.W.Frag) : R2 := fun x y H Q => ∃ a b ks ls, x = .ref a ∧ y = .ref b ∧ H a = some (.dK ks) ∧ H b = some (.dK ls) ∧ ks.length = ls.length ∧ (∀ p ∈ ks, EqEnt K H ls p) ∧ Q (.bl true) H
def rNeW (K : PySem.W.Frag) : R2 := fun x y H Q => ∃ a b ks ls, x = .ref a ∧ y = .ref b ∧ H a = some (.dK ks) ∧ H b = some (.dK ls) ∧ ks.length = ls.length ∧ (∀ p ∈ ks, EqEnt K H ls p) ∧ Q (.bl false) H
theorem op_eqW {X : Cx} (hu : X.A.units + 65 < cLine) : OpR X (compareOp .Eq) (rEqW X.K) := by
  intro pins s σ H x y v u Q I rx ry h
  obtain ⟨a, b, ks, ls, rfl, rfl, ea, eb, hlen, hp, q⟩ := h
  obtain rfl : v = Value.ref a := rx
  obtain rfl : u = Value.ref b := ry
  obtain ⟨_, ya, va, ra, da⟩ := (show ObjOk X.prog X.w H s.heap a (.dK ks) from I.hok a _ ea)
  obtain ⟨_, yb, vb, rb, db⟩ := (show ObjOk X.prog X.w H s.heap b (.dK ls) from I.hok b _ eb)
  have hl : va.length = vb.length := by rw [← ra.length, ← rb.length]; exact hlen
  have hu1 : X.A.in1.units + 64 < cLine := by show X.A.units + 1 + 64 < cLine; omega
  exact PySem.W.keq_eq (knd := mixKind X.prog X.w) (r := true) ya yb da db (by omega) (fun _ => hits_data I hu1 rb ra hp) ⟨.bl true, H, I, by simp [hl]; rfl, q⟩
theorem op_neW {X : Cx} (hu : X.A.units + 65 < cLine) : OpR X (compareOp .NotEq) (rNeW X.K) := by
  intro pins s σ H x y v u Q I rx ry h
  obtain ⟨a, b, ks, ls, rfl, rfl, ea, eb, hlen, hp, q⟩ := h
  obtain rfl : v = Value.ref a := rx
  obtain rfl : u = Value.ref b := ry
  obtain ⟨_, ya, va, ra, da⟩ := (show ObjOk X.prog X.w H s.heap a (.dK ks) from I.hok a _ ea)
  obtain ⟨_, yb, vb, rb, db⟩ := (show ObjOk X.prog X.w H s.heap b (.dK ls) from I.hok b _ eb)
  have hl : va.length = vb.length := by rw [← ra.length, ← rb.length]; exact hlen
  have hu1 : X.A.in1.units + 64 < cLine := by show X.A.units + 1 + 64 < cLine; omega
  exact PySem.W.keq_ne (knd := mixKind X.prog X.w) (r := true) ya yb da db (by omega) (fun _ => hits_data I hu1 rb ra hp) ⟨.bl false, H, I, by simp [hl]; rfl, q⟩
/-- dict of a list of pairs -/
def rDictP (K : PySem.W.Frag) : List V → Hp → VK → Prop := fun xs H Q => ∃ (a : Addr) (ps : List Addr) (kvs : List (Key × V)), xs = [.ref a] ∧ SqL K H a (ps.map V.ref) ∧ Paired (fun p kv => SqT K H p [kV kv.1, kv.2]) ps kvs ∧
    ∀ p, H p = none → Q (.ref p) (upd H p (.dK (mergeK [] kvs)))
theorem hu64_of {A : Around} {k : Nat} (hr : Room k A) : A.units + 64 < cLine := by have := hr.un; omega
theorem hu65_of {A : Around} {k : Nat} (hr : Room k A) : A.units + 65 < cLine := by have := hr.un; omega
end SG
namespace SG
open PySem PySem.Spec PyProof.Rows L2

/-! ### lists of texts as data -/
section
variable {K : PySem.W.Frag} {H H' : Hp}
theorem dpAll_strs : ∀ xs : List Str, DpAll K H (xs.map V.str) (xs.map PyData.str)
  | [] => .nil
  | x :: r => .cons (.str x) (dpAll_strs r)
theorem of_dpAll_strs : ∀ {ys : List V} {xs : List Str}, DpAll K H ys (xs.map PyData.str) → ys = xs.map V.str
  | _, [], h => by
    cases h
    rfl
  | _, x :: r, h => by
    cases h with
    | cons h1 h2 =>
      cases h1
      rw [of_dpAll_strs h2]
      rfl
theorem dp_strs {a : Addr} {xs : List Str} (h : SqL K H a (xs.map V.str)) : Dp K H (.ref a) (.list (xs.map .str)) := .lst h (dpAll_strs xs)
theorem alike_strs (xs : List Str) : PySem.W.AllAlike (xs.map PyData.str) := PySem.W.AllAlike.of fun _ _ => by rw [PySem.W.alike]
theorem sortable_strs (xs : List Str) : PySem.W.Sortable (xs.map PyData.str) := PySem.W.Sortable.others fun b => ⟨(fun h => by cases h), (fun xs h => by cases h)⟩
/-- texts sorted -/
def ssort (xs : List Str) : List Str := xs.mergeSort fun a b => decide (a.cps.toList ≤ b.cps.toList)
theorem dsort_strs (xs : List Str) : dsort (xs.map .str) = (ssort xs).map .str := by
  unfold dsort ssort
  refine (PySem.W.sort_maps PyData.str fun a _ b _ => ?_).symm
  have e := congrFun (congrFun (PySem.W.dataLe_str (fun x : Str => x)) a) b
  exact e.symm
theorem ssort_perm (xs : List Str) : (ssort xs).Perm xs := List.mergeSort_perm _ _
theorem sle_total : PySem.W.TotalLe (fun a b : Str => decide (a.cps.toList ≤ b.cps.toList)) := by
  have h := PySem.W.sortLe_total (PyProof.Rows.listOrd PyProof.Rows.itemOrd) false fun b : Str => PySem.W.keyToks (.str b)
  have e := PySem.W.dataLe_str (fun x : Str => x)
  unfold PySem.W.dataLe at e
  rw [e] at h
  exact h
theorem ssort_pair (xs : List Str) : (ssort xs).Pairwise fun a b => decide (a.cps.toList ≤ b.cps.toList) = true := PySem.W.sort_pairwise sle_total xs
theorem sle_anti {a b : Str} (h : decide (a.cps.toList ≤ b.cps.toList) = true) (h' : decide (b.cps.toList ≤ a.cps.toList) = true) : a = b :=
  PySem.W.str_of_cps (Std.le_antisymm (of_decide_eq_true h) (of_decide_eq_true h'))
/-- sorted is the same for what is the same but for the order -/
theorem ssort_eq {xs ys : List Str} (h : xs.Perm ys) : ssort xs = ssort ys :=
  ((ssort_perm xs).trans (h.trans (ssort_perm ys).symm)).eq_of_pairwise (fun _ _ _ _ => sle_anti) (ssort_pair xs) (ssort_pair ys)
abbrev eSs : List Str → PyData := eL PyData.str
theorem enc_Ss : Enc eSs := enc_L enc_str
theorem dep_Ss : Dep eSs 1 := dep_L dep_str
theorem dp_Ss {a : Addr} {xs : List Str} (h : H a = some (.lst (xs.map V.str))) : Dp K H (.ref a) (eSs xs) := dp_strs (SqL.of h)
end
/-! ### heaps -/
theorem tyes {σ : L2.St} {H : Hp} {Q : Bool → Hp → Prop} (h : Q true H) : tYes σ H Q := h
/-- a test that says unlike of what is like -/
theorem iteNE {b : Bool} {A B : Prop} (hb : b = true) (h : B) : if (!b) = true then A else B := by
  rw [hb]
  exact iteF h
theorem iteB {b : Bool} {A B : Prop} (h1 : b = true → A) (h2 : b = false → B) : if b = true then A else B := by
  cases b with
  | true => exact iteT (h1 rfl)
  | false => exact iteF (h2 rfl)
theorem lt0 {j : Int} (h : 0 < j := by decide) : 0 < j := h
theorem same_new {H : Hp} {p : Addr} {o : HO} (h : H p = none) : Same H (upd H p o) := fun b x e => by
  rw [upd_ne (ne_of_none e h)]
  exact e
/-- an object that H does not know may change -/
theorem same_mut {H H' : Hp} {p : Addr} {o : HO} (e : Same H H') (h : H p = none) : Same H (upd H' p o) := fun a u ha => by
  rw [upd_ne (ne_of_none ha h)]
  exact e a u ha
theorem sl1 {n : Nat} (h : n ≤ 1000000) : n < sizeLine := by rw [sizeLine_eq]; omega
theorem sl2 {n : Nat} (h : n ≤ 1000000) : n ≤ sizeLine := by rw [sizeLine_eq]; omega
theorem atI_eq {α : Type} {xs : List α} {i : Int} (h0 : 0 ≤ i) (h1 : i < xs.length) : atI xs i = xs[i.toNat]? := by
  obtain ⟨n, rfl⟩ : ∃ n : Nat, i = n := ⟨i.toNat, by omega⟩
  have h : n < xs.length := by omega
  rw [atI_nat (List.getElem?_eq_getElem h)]
  simp [h]
/-- an item at a place within -/
theorem atI_some {α : Type} {xs : List α} {i : Int} (h0 : 0 ≤ i) (h1 : i < xs.length) : ∃ v, atI xs i = some v ∧ v ∈ xs := by
  rw [atI_eq h0 h1]
  have h : i.toNat < xs.length := by omega
  exact ⟨xs[i.toNat], List.getElem?_eq_getElem h, List.getElem_mem h⟩
theorem app_sign (l : List Nat) (c : Nat) : (⟨l.toArray⟩ : Str) ++ (⟨#[c]⟩ : Str) = ⟨(l ++ [c]).toArray⟩ := Str.ext' (by show l.toArray ++ #[c] = _; simp)
theorem dpAll_ints {K : PySem.W.Frag} {H : Hp} : ∀ xs : List Int, DpAll K H (xs.map V.int) (xs.map PyData.int)
  | [] => .nil
  | x :: r => .cons (.int x) (dpAll_ints r)
theorem cut_lt (xs : List V) (n : Nat) : cutV xs none (some (n : Int)) = xs.take n := by
  unfold cutV
  rw [HT.sIx_none, HT.sIx_nat, Nat.sub_zero, List.drop_zero, ← List.take_eq_take_min]
theorem paired_len {α β : Type} {F : α → β → Prop} : ∀ {xs : List α} {ys : List β}, Paired F xs ys → xs.length = ys.length
  | _, _, .nil => rfl
  | _, _, .cons _ t => by rw [List.length_cons, List.length_cons, paired_len t]
theorem lock_same {H H' : Hp} {d : Addr} {u : HO} {od : Obj} (h : H d = some u) (e : Same (upd H d (.frz od u)) H') : Same H (upd H' d u) := fun a o g => by
  by_cases n : a = d
  · subst n
    rw [upd_same, ← h, g]
  · rw [upd_ne n]
    exact e a o (by rw [upd_ne n]; exact g)
theorem find_nd : ∀ {kb : List (Str × List Str)} {i : Nat} {m : Str × List Str}, (kb.map (·.1)).Nodup → kb[i]? = some m → (kb.find? fun x => decide (x.1 = m.1)) = some m
  | [], _, _, _, h => by simp at h
  | x :: r, 0, m, _, h => by
    have e : x = m := Option.some.inj h
    rw [e, List.find?_cons_of_pos (by simp)]
  | x :: r, i + 1, m, nd, h => by
    rw [List.map_cons, List.nodup_cons] at nd
    have hm : m ∈ r := List.mem_of_getElem? h
    rw [List.find?_cons_of_neg, find_nd nd.2 h]
    intro e
    exact nd.1 (by rw [of_decide_eq_true e]; exact List.mem_map_of_mem hm)
theorem mergeK_nd : ∀ {more kvs : List (Key × V)}, (∀ p ∈ more, valV kvs p.1 = none) → (more.map (·.1)).Nodup → mergeK kvs more = kvs ++ more
  | [], kvs, _, _ => by
    rw [List.append_nil]
    rfl
  | p :: more, kvs, h, nd => by
    have e : putK kvs p.1 p.2 = kvs ++ [(p.1, p.2)] := putK_new _ (h p List.mem_cons_self)
    rw [List.map_cons, List.nodup_cons] at nd
    show mergeK (putK kvs p.1 p.2) more = _
    rw [e, mergeK_nd (kvs := kvs ++ [(p.1, p.2)]) (fun q hq => ?_) nd.2, List.append_assoc]
    · rfl
    · rw [valV_snoc _ _ _ _ (h p List.mem_cons_self), if_neg]
      · exact h q (List.mem_cons_of_mem _ hq)
      · intro e
        exact nd.1 (e ▸ List.mem_map_of_mem hq)
/-! ### outs -/
def BaseAt (H : Hp) (kvs : List (Key × V)) (kb : List (Str × List Str)) : Prop := Paired (fun (p : Key × V) (m : Str × List Str) => p.1 = Sum.inr m.1 ∧ ∃ a, p.2 = .ref a ∧ H a = some (.lst (m.2.map V.str))) kvs kb
/-- the making of a name -/
def mk (kb : List (Str × List Str)) (n : Str) : List Str := ((kb.find? fun m => decide (m.1 = n)).map (·.2)).getD [n]
def outs (kb : List (Str × List Str)) (ns : List Str) : List Str := ns.flatMap (mk kb)
theorem baseAt_val {H : Hp} : ∀ {kvs : List (Key × V)} {kb : List (Str × List Str)}, BaseAt H kvs kb → ∀ n : Str,
    (valV kvs (Sum.inr n : Key) = none ∧ (kb.find? fun m => decide (m.1 = n)) = none) ∨ ∃ a ms, valV kvs (Sum.inr n : Key) = some (.ref a) ∧ H a = some (.lst (ms.map V.str)) ∧ ((kb.find? fun m => decide (m.1 = n)).map (·.2)) = some ms ∧ (n, ms) ∈ kb
  | _, _, .nil, n => .inl ⟨rfl, rfl⟩
  | p :: kvs, m :: kb, .cons ⟨h1, a, h2, h3⟩ t, n => by
    by_cases e : m.1 = n
    · refine .inr ⟨a, m.2, ?_, h3, ?_, ?_⟩
      · rw [valV_pos (by rw [h1, e]), h2]
      · rw [List.find?_cons_of_pos (by simpa using e)]
        rfl
      · rw [← e]
        exact List.mem_cons_self
    · rw [valV_neg (by rw [h1]; intro z; exact e (Sum.inr.inj z)), List.find?_cons_of_neg (by simpa using e)]
      rcases baseAt_val t n with h | ⟨b, ms, x1, x2, x3, x4⟩
      · exact .inl h
      · exact .inr ⟨b, ms, x1, x2, x3, List.mem_cons_of_mem _ x4⟩
theorem mk_len {kb : List (Str × List Str)} (h : ∀ m ∈ kb, m.2.length ≤ 4) (n : Str) : (mk kb n).length ≤ 4 := by
  unfold mk
  cases e : kb.find? fun m => decide (m.1 = n) with
  | none => simp
  | some m => simpa using h m (List.mem_of_find?_eq_some e)
theorem outs_len {kb : List (Str × List Str)} (h : ∀ m ∈ kb, m.2.length ≤ 4) : ∀ ns : List Str, (outs kb ns).length ≤ 4 * ns.length
  | [] => Nat.zero_le _
  | n :: r => by
    unfold outs
    rw [List.flatMap_cons, List.length_append]
    have h1 := mk_len h n
    have h2 := outs_len h r
    unfold outs at h2
    rw [List.length_cons]
    omega
theorem outs_snoc (kb : List (Str × List Str)) (ns : List Str) (n : Str) : outs kb (ns ++ [n]) = outs kb ns ++ mk kb n := by
  unfold outs
  simp
theorem take_snoc {α : Type} {xs : List α} {i : Nat} {x : α} (h : xs[i]? = some x) : xs.take (i + 1) = xs.take i ++ [x] := by
  rw [List.take_add_one, h]
  rfl
theorem map_at {α β : Type} {f : α → β} {xs : List α} {i : Nat} {y : β} (h : (xs.map f)[i]? = some y) : ∃ x, xs[i]? = some x ∧ y = f x := by
  rw [List.getElem?_map] at h
  cases e : xs[i]? with
  | none => rw [e] at h; cases h
  | some x => rw [e] at h; exact ⟨x, rfl, (Option.some.inj h).symm⟩
end SG
/-! len(set(texts)), any number of texts -/
namespace SG
open PySem PySem.Spec PyProof.Rows L2
/-- texts, each once -/
def once1 (l : List Str) (x : Str) : List Str := if l.any (· == x) = true then l else l ++ [x]
def once (xs : List Str) : List Str := xs.foldl once1 []
theorem once_snoc (xs : List Str) (x : Str) : once (xs ++ [x]) = once1 (once xs) x := by
  unfold once
  rw [List.foldl_append]
  rfl
theorem once_len : ∀ n (xs : List Str), xs.length = n → (once xs).length ≤ n := by
  intro n
  induction n with
  | zero => intro xs h; rw [List.eq_nil_of_length_eq_zero h]; exact Nat.le_refl _
  | succ n ih =>
    intro xs h
    have hne : xs ≠ [] := by intro e; rw [e] at h; simp at h
    rw [← List.dropLast_concat_getLast hne, once_snoc]
    have h1 := ih xs.dropLast (by rw [List.length_dropLast]; omega)
    unfold once1
    split
    · omega
    · rw [List.length_append, List.length_singleton]; omega
theorem once1_any (l : List Str) (x k : Str) : (once1 l x).any (· == k) = (l.any (· == k) || decide (k = x)) := by
  unfold once1
  by_cases h : l.any (· == x) = true
  · rw [if_pos h]
    by_cases e : k = x
    · subst e; rw [h]; simp
    · simp [e]
  · rw [if_neg h, List.any_append]
    by_cases e : k = x
    · subst e; simp
    · have hb : (x == k) = false := by simpa [beq_iff_eq] using (fun q : x = k => e q.symm)
      simp [hb, e]
theorem once1_len (l : List Str) (x : Str) : (once1 l x).length = if l.any (· == x) then l.length else l.length + 1 := by
  unfold once1; split <;> simp
theorem once_mem : ∀ (xs : List Str) (k : Str), (once xs).any (· == k) = xs.any (· == k) := by
  intro xs k
  have : ∀ (ys l : List Str), (ys.foldl once1 l).any (· == k) = (l.any (· == k) || ys.any (· == k)) := by
    intro ys
    induction ys with
    | nil => intro l; simp
    | cons y r ih =>
      intro l
      rw [List.foldl_cons, ih, once1_any, List.any_cons, Bool.or_assoc]
      congr 2
      by_cases e : k = y
      · subst e; simp
      · have hb : (y == k) = false := by simpa [beq_iff_eq] using (fun q : y = k => e q.symm)
        simp [hb, e]
  rw [show once xs = xs.foldl once1 [] from rfl, this]
  simp
theorem once_nodup : ∀ xs : List Str, (once xs).length = xs.length ↔ xs.Nodup := by
  have key : ∀ n (xs : List Str), xs.length = n → ((once xs).length = xs.length ↔ xs.Nodup) := by
    intro n
    induction n with
    | zero => intro xs h; rw [List.eq_nil_of_length_eq_zero h]; exact ⟨fun _ => List.nodup_nil, fun _ => rfl⟩
    | succ n ih =>
      intro xs h
      have hne : xs ≠ [] := by intro e; rw [e] at h; simp at h
      have hdl : xs.dropLast.length = n := by rw [List.length_dropLast]; omega
      have h1 := ih xs.dropLast hdl
      have h2 := once_len _ xs.dropLast rfl
      generalize hl : xs.dropLast = ys at *
      generalize hg : xs.getLast hne = x at *
      have ex : xs = ys ++ [x] := by rw [← hl, ← hg, List.dropLast_concat_getLast]
      rw [ex, once_snoc, once1_len, once_mem, List.length_append, List.length_singleton]
      by_cases e : ys.any (· == x) = true
      · rw [if_pos e]
        refine ⟨fun q => by omega, fun q => ?_⟩
        obtain ⟨y, hy, ey⟩ := List.any_eq_true.mp e
        rw [eq_of_beq ey] at hy
        rw [List.nodup_append] at q
        exact absurd rfl (q.2.2 x hy x (by simp))
      · rw [if_neg e]
        refine ⟨fun q => ?_, fun q => ?_⟩
        · rw [List.nodup_append]
          refine ⟨h1.mp (by omega), by simp, fun a ha b hb eab => e ?_⟩
          rw [List.mem_singleton.mp hb] at eab
          rw [eab] at ha
          exact List.any_eq_true.mpr ⟨x, ha, by simp⟩
        · rw [List.nodup_append] at q
          have := h1.mpr q.1
          omega
  exact fun xs => key _ xs rfl
section
variable {prog : Program} {w : World} {A : Around} {R : Result → Shared → Prop} {I : Addr} {fp wr : List Addr} {G : Array GenState → Array GenState → Prop} {n : Nat} {P : Nat → Value → Prop} {St : Nat → Shared → Prop}
/-- the loop of set(texts) -/
theorem fill_texts (W : WalksS prog w A.in1 I fp wr G n P St) (S : Addr) (hSf : S ∉ fp) (xs : List Str) (hsz : xs.length = n) (hn : n + 1 < scanBound) (hval : ∀ i v, P i v → ∃ t, v = .str (xs.getD i Str.empty) t) :
    ∀ (m i : Nat) (s : Shared), n - i = m → i ≤ n → St i s → s.heap.SetOf (strKind prog w) S (fun k => (once (xs.take i)).any (· == k)) (once (xs.take i)).length →
      (∀ s', Moved (S :: wr) G s s' → s'.heap.SetOf (strKind prog w) S (fun k => (once (xs.take n)).any (· == k)) (once (xs.take n)).length → R (.ok (.ret .none)) s') →
      codeAny (model prog w) A (.builtin "set.update.loop" ⟨[.ref S, .ref I], []⟩) R s := by
  have hSw : S ∉ wr := fun h => hSf (W.sub _ h)
  have hsub : ∀ b ∈ wr, b ∈ S :: wr := fun b hb => List.mem_cons_of_mem _ hb
  have carry : ∀ {s s' : Shared} {f : Str → Bool} {c : Nat}, Moved wr G s s' → s.heap.SetOf (strKind prog w) S f c → s'.heap.SetOf (strKind prog w) S f c := fun hm ⟨o, es, ep, t, ho, rest⟩ => ⟨o, es, ep, t, hm.heap S _ hSw ho, rest⟩
  intro m
  induction m with
  | zero =>
    intro i s hk hi hst hS hR
    have hin : i = n := by omega
    subst hin
    refine codeAny_builtin PyProof.Rows.F.entry_set_update_loop ?_
    rw [Around.under_plainId PyProof.Rows.F.plain_set_update_loop _]
    show wpAny _ A.in1 (pyNext (.ref I) >>= _) _ _ s
    refine wpAny_bind (W.done s _ _ hst fun s' hm => ?_)
    show wpAny _ A.in1 (ret Value.none) _ _ s'
    exact wpAny_pure (hR s' (hm.mono hsub) (carry hm hS))
  | succ m ih =>
    intro i s hk hi hst hS hR
    have hlt : i < n := by omega
    refine codeAny_builtin PyProof.Rows.F.entry_set_update_loop ?_
    rw [Around.under_plainId PyProof.Rows.F.plain_set_update_loop _]
    show wpAny _ A.in1 (pyNext (.ref I) >>= _) _ _ s
    refine wpAny_bind (W.item i s _ _ hlt hst fun v s' hP hst' hm => ?_)
    obtain ⟨t, rfl⟩ := hval i v hP
    have hS' := carry hm hS
    have hget : xs[i]? = some (xs.getD i Str.empty) := by
      rw [List.getD_eq_getElem?_getD, List.getElem?_eq_getElem (show i < xs.length by omega)]
      rfl
    have hlen : (once (xs.take i)).length ≤ i := Nat.le_trans (once_len _ _ rfl) (by rw [List.length_take]; omega)
    show wpAny _ A.in1 (holding [Value.str (xs.getD i Str.empty) t] (setAdd S (.str (xs.getD i Str.empty) t)) >>= _) _ _ s'
    refine wpAny_bind (wpAny_holding ?_)
    unfold setAdd
    refine wpAny_holding ?_
    refine wpAny_bind ((strKind prog w).pyHash (k := xs.getD i Str.empty) (strKind_is _ _ _ _) ?_)
    refine wpAny_setAddHashed_of (knd := strKind prog w) (s := { s' with toks := s'.toks + 1 }) (strKind_is _ _ _ _) rfl hS' (by omega) fun h' hsb hS2 => ?_
    have hSi : h'.SetOf (strKind prog w) S (fun k => (once (xs.take (i + 1))).any (· == k)) (once (xs.take (i + 1))).length :=
      SetOf_congr hS2 (fun k => by rw [take_snoc hget, once_snoc, once1_any]) (by rw [take_snoc hget, once_snoc, once1_len])
    refine wpAny_pure ⟨plainId_quiet PyProof.Rows.F.plain_set_update_loop _, ih (i + 1) _ (by omega) hlt (W.frame _ s' _ _ hst' (Nat.le_succ _) fun b hb o e => ?_) hSi fun s'' hm'' hS'' => ?_⟩
    · rw [hsb.2 b (fun h : b = S => hSf (by rw [← h]; exact hb))]; exact e
    · refine hR s'' (Moved.trans W.gtrans ((hm.mono hsub).then_heap (Nat.le_succ _) fun b o hb e => ?_) hm'') hS''
      rw [hsb.2 b (fun h : b = S => hb (by rw [h]; exact List.mem_cons_self))]; exact e
end
section
variable {prog : Program} {w : World} {A : Around} {E : Value → Shared → Prop} {s : Shared}
theorem call_set_texts {l : Addr} {items : Array Value} {xs : List Str} {Q : Value → Shared → Prop} (hh : A.handled = none) (hl : s.heap.IsList l items) (hi : PyProof.Rows.StrsAre items.toList xs) (hn1 : items.size + 1 < scanBound)
    (h : ∀ (h' : Heap) (tk : Nat), h'.SetOf (strKind prog w) s.heap.objs.size (fun k => (once xs).any (· == k)) (once xs).length → (∀ b o, b < s.heap.objs.size → s.heap.get? b = some o → h'.get? b = some o) → Q (.ref s.heap.objs.size) { s with heap := h', toks := tk }) :
    wpAny (model prog w) A (call (.type "set") [.ref l]) Q E s := by
  obtain ⟨c, tl, hmro⟩ := PySem.F.called_set.mro
  have hmade := PySem.F.called_set.made
  have hsub := PySem.F.called_set.sub
  have hsz : xs.length = items.size := by rw [← StrsAre.len_eq hi, Array.length_toList]
  have htk : xs.take items.size = xs := List.take_of_length_le (by omega)
  refine wpAny_call (codeAny_of_tree ?_)
  show wpAny _ _ (callAny (.type "set") _) _ _ _
  refine wpAny_pure ⟨Code.quiet_builtin _ (by decide +kernel), codeAny_builtin PySem.F.entry_type_call ?_⟩
  rw [Around.under_plain (weight_type_call_type "set" [.ref l] []) rfl]
  have h1 := PySem.F.called_set.notType
  have h2 := PySem.F.called_set.canCreate
  have hct := PySem.F.typeCall_set_1 (.ref l)
  repeat (any_goals (first | assumption | wp_step))
  refine codeAny_mono (code_set_new_1 (.ref l) (E := E) (Q₁ := fun obj s₁ => ∃ led : Bool, obj = .ref s.heap.objs.size ∧ s₁ = { s with heap := s.heap.push { cls := .type "set", dict := none, data := .set #[] 0 (.fresh 0 0 led) } }) fun led => ⟨led, rfl, rfl⟩) fun r s₁ hr => ?_
  cases r with
  | error e => exact hr
  | ok fl =>
    cases fl with
    | ret obj =>
      obtain ⟨led, rfl, rfl⟩ := hr
      have hS : (s.heap.push { cls := .type "set", dict := none, data := .set #[] 0 (.fresh 0 0 led) }).get? s.heap.objs.size = some { cls := .type "set", dict := none, data := .set #[] 0 (.fresh 0 0 led) } := Heap.get?_push_size _ rfl
      have hT : Shared.TypeIs { s with heap := s.heap.push { cls := .type "set", dict := none, data := .set #[] 0 (.fresh 0 0 led) } } (.ref s.heap.objs.size) "set" := ⟨_, hS, rfl⟩
      have hli := PySem.F.called_set.init.lookup
      have hbi := PySem.F.called_set.init.bind (.ref s.heap.objs.size)
      repeat (any_goals (first | assumption | wp_step))
      refine codeAny_mono (codeAny_call_builtin (R := wants (fun r s₂ => r = .none ∧ ∃ h' tk, s₂ = { s with heap := h', toks := tk } ∧
          h'.SetOf (strKind prog w) s.heap.objs.size (fun k => (once xs).any (· == k)) (once xs).length ∧
          (∀ b o, b < s.heap.objs.size → s.heap.get? b = some o → h'.get? b = some o)) E) PySem.F.called_set.init.plain PySem.F.entry_set_init (check_set_init_1 hT ?_)) fun r₂ s₂ hr₂ => ?_
      · obtain ⟨ol, hol, hcl, nl, hdl⟩ := hl
        obtain ⟨ocls, odict, odata, oslots⟩ := ol
        simp only at hcl hdl
        subst hcl; subst hdl
        have hol' : (s.heap.push { cls := .type "set", dict := none, data := .set #[] 0 (.fresh 0 0 led) }).get? l = some { cls := .type "list", dict := odict, data := .seq items nl, slots := oslots } := Heap.get?_push_of_some _ hol
        have hsls := PySem.F.sub_list_set
        have hslf := PySem.F.sub_list_frozenset
        have hne : (Value.type "list" == Value.type "dict") = false := by decide
        have hl1 : (s.heap.push { cls := .type "set", dict := none, data := .set #[] 0 (.fresh 0 0 led) }).IsList l items := ⟨_, hol', rfl, nl, rfl⟩
        unfold Builtin.«set.__init__» noKeywords Builtin.Frozenset.updateFrom
        generalize hPI : pyIter = PI
        wp_walk
        subst hPI
        refine wpAny_pyIter_list hl1 ?_
        refine wpAny_bind (wpAny_runValue ?_)
        have hlS : l < s.heap.objs.size := Heap.lt_size hol
        have hh3 : A.in1.in1.in1.handled = none := by simp [hh]
        have hneI : l ≠ (s.heap.push { cls := .type "set", dict := none, data := .set #[] 0 (.fresh 0 0 led) }).objs.size := by
          rw [Heap.size_push]; exact Nat.ne_of_lt (Nat.lt_succ_of_lt hlS)
        have hSf : s.heap.objs.size ∉ [(s.heap.push { cls := .type "set", dict := none, data := .set #[] 0 (.fresh 0 0 led) }).objs.size, l] := by
          rw [Heap.size_push]; simp only [List.mem_cons, List.mem_singleton, List.not_mem_nil, or_false, not_or]
          exact ⟨Nat.ne_of_lt (Nat.lt_succ_self _), Nat.ne_of_gt hlS⟩
        have hval : ∀ (i : Nat) (v : Value), items[i]? = some v → ∃ t, v = .str (xs.getD i Str.empty) t := fun i v hv => SS.strs_at hi i v (by rw [Array.getElem?_toList]; exact hv)
        refine fill_texts ((Walks.list hh3 _ l hneI items).toS) s.heap.objs.size hSf xs hsz hn1 hval (items.size - 0) 0 _ (by omega) (Nat.zero_le _) ⟨⟨_, Heap.get?_push_size _ rfl, rfl, rfl⟩, (hl1.push _)⟩ ?hS0 ?hR
        case hS0 =>
          have hget : ((s.heap.push { cls := .type "set", dict := none, data := .set #[] 0 (.fresh 0 0 led) }).push { cls := .type "list_iterator", data := .fields #[.ref l, .int 0 0] }).get? s.heap.objs.size
              = some { cls := .type "set", dict := none, data := .set #[] 0 (.fresh 0 0 led) } := Heap.get?_push_of_some _ hS
          exact PyProof.Rows.SetOf_congr ((PyProof.Rows.setObjOf_fresh (knd := strKind prog w) led).setOf hget (by unfold scanBound; omega)) (fun _ => rfl) rfl
        case hR =>
          intro s' hm hS'
          rw [htk] at hS'
          obtain ⟨h', g', d', tk', os'⟩ := s'
          have eg : g' = s.gens := hm.gens
          have ed : d' = s.drawn := hm.drawn
          have eo : os' = s.os := hm.os
          subst eg; subst ed; subst eo
          show wpAny _ _ _ _ _ _
          refine wpAny_pure ?_
          show wpAny _ _ (ret Value.none) _ _ _
          refine wpAny_pure ⟨rfl, h', tk', rfl, hS', fun b o hb e => ?_⟩
          have hb1 : b ≠ s.heap.objs.size := Nat.ne_of_lt hb
          have hb2 : b ≠ (s.heap.push { cls := .type "set", dict := none, data := .set #[] 0 (.fresh 0 0 led) }).objs.size := by
            rw [Heap.size_push]; exact Nat.ne_of_lt (Nat.lt_succ_of_lt hb)
          exact hm.heap b o (by simp only [List.mem_cons, List.mem_singleton, List.not_mem_nil, or_false, not_or]; exact ⟨hb1, hb2⟩) (Heap.get?_push_of_some _ (Heap.get?_push_of_some _ e))
      · cases r₂ with
        | error e => exact hr₂
        | ok fl₂ =>
          cases fl₂ with
          | ret r =>
            obtain ⟨rfl, h', tk, rfl, hS', hk'⟩ := hr₂
            repeat (any_goals (first | assumption | wp_step))
            exact h _ _ hS' hk'
          | _ => exact hr₂.elim
    | _ => exact hr.elim
end
section
variable {X : Cx}
def tLenSetS (K : PySem.W.Frag) (ta : TE) : TE := fun σ H Q => ta σ H fun x H1 => ∃ (l : Addr) (xs : List Str), x = .ref l ∧ SqL K H1 l (xs.map V.str) ∧ xs.length ≤ 1000 ∧ Q (.int ((once xs).length : Nat)) H1
theorem pe_lenSetS {a : Expr} {ta : TE} {p p2 q pos : Pos} (hg : Gl X "len") (hm : X.mg "len" = none) (hg2 : Gl X "set") (hm2 : X.mg "set" = none) (ha : PE X a ta) (hc : X.calm = true := by rfl)
    (na : starEach [a] X.env = (false, eval a X.env) :: starEach [] X.env := by rfl) : PE X (.Call (.Name "len" p) [.Call (.Name "set" p2) [a] [] q] [] pos) (tLenSetS X.K ta) := by
  refine ⟨fun pins s σ H Q I h => ?_⟩
  refine Call_ (ld_blt I hg hm boot_len ?_)
  refine PyProof.Rows.callWith_builtin1 (PyProof.Rows.args_cons ?_ rfl) rfl rfl
  refine Call_ (ld_blt I hg2 hm2 boot_set ?_)
  refine PyProof.Rows.callWith_type1 (PyProof.Rows.args_cons (thn (ha.run pins s σ H _ I h) fun v s1 ⟨x, H1, I1, r1, q1⟩ => PyProof.Rows.args_nil ?_) na) na rfl
  obtain ⟨l, xs, rfl, hq, h1, q1⟩ := q1
  cases r1
  obtain ⟨its, r, pl, hz⟩ := I1.list hq
  have hlen : its.toArray.size = xs.length := by rw [List.size_toArray, ← r.length, List.length_map]
  have h2 := once_len _ xs rfl
  refine call_set_texts (I1.ok.hd hc) pl.isList (by simpa using r.strs) (by rw [hlen]; unfold scanBound; omega) fun h' tk hS hk => ?_
  refine PyProof.Rows.args_nil ?_
  obtain ⟨o, es, ep, t, ho, hex, hd, _, _, _, hf, hn⟩ := hS
  have I2 : Inv X pins σ H1 { s1 with heap := h', toks := tk } := I1.kept fun b o e => hk b o (Heap.lt_size e) e
  exact PySem.call_len_set ho hex hd hf (by rw [hn] <;> omega) ⟨.int (once xs).length, H1, I2.tok _, ⟨_, by rw [hn]⟩, q1⟩
end
end SG
/-! grammars: data, and how an instance bears it -/
namespace SG
open PySem PySem.Spec PyProof.Rows L2
/-! ### comprehensions of scalars -/
theorem lc_scal {K : PySem.W.Frag} {a D : Addr} {xs ys : List V} {j : Nat} {te : TE} {vs : List Nat} {σ : L2.St} {H : Hp} {Qd : Hp → Prop} (hx : SqL K H a xs) (hD : H D = none) (hl : ys.length = xs.length) (hz : xs.length ≤ 1000000) (hw : ∀ x, wipe ((wipe σ vs).set j (some x)) vs = wipe σ vs)
    (he : ∀ (i : Nat) (x y : V) (H' : Hp) (Q' : VK), xs[i]? = some x → ys[i]? = some y → Same H H' → (∀ H'', Same H' H'' → Q' y H'') → te ((wipe σ vs).set j (some x)) H' Q')
    (hd : ∀ H', Same H H' → H' D = some (.lst ys) → Qd H') :
    ∃ W : Nat → Nat → Hp → Prop, (∃ m, W 0 m (upd H D (.lst []))) ∧ ∀ i m H, W i m H →
      ((Itl K a).stop i H ∧ Qd H) ∨ ((Itl K a).go i H ∧ ∃ Nx : Hp → Prop, (∀ H', Nx H' → ∃ m', m' < m ∧ W (i + 1) m' H') ∧ ∀ x H', (Itl K a).yld i H x H' → gName j x (wipe σ vs) H' fun σ2 H2 => wipe σ2 vs = wipe σ vs ∧ tYes σ2 H2 fun b H3 =>
        if b = true then te σ2 H3 fun y H4 => ∃ acc, H4 D = some (.lst acc) ∧ acc.length < sizeLine ∧ Nx (upd H4 D (.lst (acc ++ [y]))) else Nx H3) := by
  refine lc_list (xs := xs) (fun i H' => Same H H' ∧ H' D = some (.lst (ys.take i))) ⟨same_new hD, upd_same⟩ (fun i H' _ p => p.1.seq hx) (fun i x H' hi p => ?_) (fun H' p => hd H' p.1 (by rw [p.2, List.take_of_length_le (by omega)]))
  have hlt := (List.getElem?_eq_some_iff.mp hi).1
  have hy : ys[i]? = some (ys[i]'(by omega)) := List.getElem?_eq_getElem (by omega)
  refine ⟨hw x, tyes (iteT ?_)⟩
  refine he i x _ H' _ hi hy p.1 fun H'' e => ⟨_, e _ _ p.2, sl1 (by rw [List.length_take]; omega), same_mut (p.1.trans e) hD, ?_⟩
  rw [upd_same, take_snoc hy]
/-- the same over a text's signs -/
theorem lc_scalS {D : Addr} {z : Str} {ys : List V} {j : Nat} {te : TE} {vs : List Nat} {σ : L2.St} {H : Hp} {Qd : Hp → Prop} (hD : H D = none) (hl : ys.length = z.length) (hz : z.length ≤ 1000000) (hw : ∀ x, wipe ((wipe σ vs).set j (some x)) vs = wipe σ vs)
    (he : ∀ (i : Nat) (c : Nat) (y : V) (H' : Hp) (Q' : VK), z.cps.toList[i]? = some c → ys[i]? = some y → Same H H' → (∀ H'', Same H' H'' → Q' y H'') → te ((wipe σ vs).set j (some (.str ⟨#[c]⟩))) H' Q')
    (hd : ∀ H', Same H H' → H' D = some (.lst ys) → Qd H') :
    ∃ W : Nat → Nat → Hp → Prop, (∃ m, W 0 m (upd H D (.lst []))) ∧ ∀ i m H, W i m H →
      ((Its z).stop i H ∧ Qd H) ∨ ((Its z).go i H ∧ ∃ Nx : Hp → Prop, (∀ H', Nx H' → ∃ m', m' < m ∧ W (i + 1) m' H') ∧ ∀ x H', (Its z).yld i H x H' → gName j x (wipe σ vs) H' fun σ2 H2 => wipe σ2 vs = wipe σ vs ∧ tYes σ2 H2 fun b H3 =>
        if b = true then te σ2 H3 fun y H4 => ∃ acc, H4 D = some (.lst acc) ∧ acc.length < sizeLine ∧ Nx (upd H4 D (.lst (acc ++ [y]))) else Nx H3) := by
  refine lc_it walk_str (fun i H' => Same H H' ∧ H' D = some (.lst (ys.take i))) ⟨same_new hD, upd_same⟩ (fun i H' _ p => trivial) (fun i x H' H2 hi p hy => ?_) (fun H' p => hd H' p.1 (by rw [p.2, List.take_of_length_le (by rw [hl]; exact Nat.le_refl _)]))
  obtain ⟨rfl, c, hc, rfl⟩ := hy
  have hlt : i < z.length := hi
  have hy : ys[i]? = some (ys[i]'(by omega)) := List.getElem?_eq_getElem (by omega)
  refine ⟨hw _, tyes (iteT ?_)⟩
  refine he i c _ H2 _ (by rw [Array.getElem?_toList]; exact hc) hy p.1 fun H'' e => ⟨_, e _ _ p.2, sl1 (by rw [List.length_take]; omega), same_mut (p.1.trans e) hD, ?_⟩
  rw [upd_same, take_snoc hy]
theorem map_get {α β : Type} {f : α → β} {xs : List α} {i : Nat} {x : α} {y : β} (h : xs[i]? = some x) (h' : (xs.map f)[i]? = some y) : y = f x := by
  rw [List.getElem?_map, h] at h'
  exact (Option.some.inj h').symm

theorem paired_app {α β : Type} {F : α → β → Prop} {y : α} {z : β} (h : F y z) : ∀ {xs : List α} {ys : List β}, Paired F xs ys → Paired F (xs ++ [y]) (ys ++ [z])
  | _, _, .nil => .cons h .nil
  | _, _, .cons h1 t => .cons h1 (paired_app h t)
theorem putK_le (kvs : List (Key × V)) (k : Key) (v : V) : (putK kvs k v).length ≤ kvs.length + 1 := by
  unfold putK
  split
  · rw [List.length_map]; omega
  · rw [List.length_append]; exact Nat.le_refl _

/-! ### names, letters -/
abbrev abcS : Str := "abcdefghijklmnopqrstuvwxyz"
theorem abcL : abcS.cps.toList = (List.range 26).map (97 + ·) := by decide +kernel
def isSmall (x : Str) : Bool := x.cps.toList.all fun c => decide (c ∈ abcS.cps.toList)
def isName (x : Str) : Bool := decide (1 ≤ x.length) && decide (x.length ≤ 8) && isSmall x && decide (x ≠ ("names" : Str))
def isLetter (x : Str) : Bool := decide (x.length = 1) && isSmall x
def areNames (xs : List Str) : Bool := decide (1 ≤ xs.length) && decide (xs.length ≤ 6) && decide (xs.Nodup) && xs.all isName
abbrev Rule := Str × Str × List Str
/-- the rules of a name, in their order -/
def rulesOf (rs : List Rule) (n : Str) : List (Str × List Str) := (rs.filter fun r => decide (r.1 = n)).map (·.2)
def letsBy (names : List Str) (rs : List Rule) (r : Rule) : Bool :=
  decide (r.1 ∈ names) && isLetter r.2.1 && decide (r.2.2.length ≤ 3) && r.2.2.all (fun x => decide (x ∈ names)) && decide ((rulesOf rs r.1).length < 4) && decide (r.2 ∉ rulesOf rs r.1)
/-- all rules are let by, one behind the other -/
def rulesOk (names : List Str) (rs : List Rule) : Prop := ∀ i r, rs[i]? = some r → letsBy names (rs.take i) r = true
theorem rulesOf_snoc (rs : List Rule) (r : Rule) (n : Str) : rulesOf (rs ++ [r]) n = if r.1 = n then rulesOf rs n ++ [r.2] else rulesOf rs n := by
  unfold rulesOf
  rw [List.filter_append, List.map_append]
  by_cases e : r.1 = n
  · rw [if_pos e]; simp [e]
  · rw [if_neg e]; simp [e]

/-! ### how an instance bears it -/
def RuleAt (H : Hp) (t : Addr) (p : Str × List Str) : Prop := ∃ w, H t = some (.tup [.str p.1, .ref w]) ∧ H w = some (.lst (p.2.map V.str))
def ListAt (H : Hp) (l : Addr) (ps : List (Str × List Str)) : Prop := ∃ ts : List Addr, H l = some (.lst (ts.map V.ref)) ∧ Paired (RuleAt H) ts ps
def zipK (names : List Str) (ls : List Addr) : List (Key × V) := List.zipWith (fun n l => ((Sum.inr n : Key), V.ref l)) names ls
def StoredAt (H : Hp) (st : Addr) (names : List Str) (ls : List Addr) (f : Str → List (Str × List Str)) : Prop := H st = some (.dK (zipK names ls)) ∧ Paired (fun n l => ListAt H l (f n)) names ls ∧ ls.Nodup
def gfs (kn st od : Addr) : List (Str × V) := putF "order" (.ref od) (putF "stored" (.ref st) (putF "known" (.ref kn) []))
structure GramAt (C : Addr) (H : Hp) (g : Addr) (names : List Str) (rs : List Rule) : Prop where
  ex : ∃ dx kn st od ls, H g = some (.ins C dx (gfs kn st od)) ∧ H kn = some (.lst (names.map V.str)) ∧ StoredAt H st names ls (rulesOf rs) ∧ H od = some (.lst ((rs.map (·.1)).map V.str))
theorem k_so : ¬ (("stored" : Str) = "order") := by decide +kernel
theorem k_ko : ¬ (("known" : Str) = "order") := by decide +kernel
theorem k_ks : ¬ (("known" : Str) = "stored") := by decide +kernel
theorem gfs_known (kn st od : Addr) : (gfs kn st od).lookup ("known" : Str) = some (.ref kn) := by
  unfold gfs
  rw [lookup_putF, if_neg k_ko, lookup_putF, if_neg k_ks, lookup_putF, if_pos rfl]
theorem gfs_stored (kn st od : Addr) : (gfs kn st od).lookup ("stored" : Str) = some (.ref st) := by
  unfold gfs
  rw [lookup_putF, if_neg k_so, lookup_putF, if_pos rfl]
theorem gfs_order (kn st od : Addr) : (gfs kn st od).lookup ("order" : Str) = some (.ref od) := by
  unfold gfs
  rw [lookup_putF, if_pos rfl]
theorem gfs_no (kn st od : Addr) {m : Str} (h1 : ¬ m = "known") (h2 : ¬ m = "stored") (h3 : ¬ m = "order") : (gfs kn st od).lookup m = none := by
  unfold gfs
  rw [lookup_putF, if_neg h3, lookup_putF, if_neg h2, lookup_putF, if_neg h1]
  rfl
theorem RuleAt.same {H H' : Hp} (e : Same H H') {t : Addr} {p : Str × List Str} (h : RuleAt H t p) : RuleAt H' t p := by
  obtain ⟨w, h1, h2⟩ := h
  exact ⟨w, e _ _ h1, e _ _ h2⟩
theorem ListAt.same {H H' : Hp} (e : Same H H') {l : Addr} {ps : List (Str × List Str)} (h : ListAt H l ps) : ListAt H' l ps := by
  obtain ⟨ts, h1, h2⟩ := h
  exact ⟨ts, e _ _ h1, Paired.mapP h2 fun _ _ => RuleAt.same e⟩
theorem StoredAt.same {H H' : Hp} (e : Same H H') {st : Addr} {names : List Str} {ls : List Addr} {f : Str → List (Str × List Str)} (h : StoredAt H st names ls f) : StoredAt H' st names ls f :=
  ⟨e _ _ h.1, Paired.mapP h.2.1 fun _ _ => ListAt.same e, h.2.2⟩
theorem GramAt.same {C : Addr} {H H' : Hp} (e : Same H H') {g : Addr} {names : List Str} {rs : List Rule} (h : GramAt C H g names rs) : GramAt C H' g names rs := by
  obtain ⟨dx, kn, st, od, ls, h1, h2, h3, h4⟩ := h.ex
  exact ⟨dx, kn, st, od, ls, e _ _ h1, e _ _ h2, h3.same e, e _ _ h4⟩
/-- looking a name up -/
theorem zipK_val : ∀ {names : List Str} {ls : List Addr}, names.length = ls.length → ∀ n : Str, (valV (zipK names ls) (Sum.inr n : Key) = none ∧ n ∉ names) ∨ ∃ (i : Nat) (l : Addr), names[i]? = some n ∧ ls[i]? = some l ∧ valV (zipK names ls) (Sum.inr n : Key) = some (.ref l) ∧ n ∈ names
  | [], [], _, n => .inl ⟨rfl, by simp⟩
  | x :: names, l :: ls, h, n => by
    unfold zipK
    rw [List.zipWith_cons_cons]
    by_cases e : x = n
    · exact .inr ⟨0, l, by rw [e]; rfl, rfl, valV_pos (by rw [e]), by rw [e]; exact List.mem_cons_self⟩
    · have ne : ¬ ((Sum.inr x : Key) = Sum.inr n) := fun z => e (Sum.inr.inj z)
      rw [valV_neg ne]
      rcases zipK_val (names := names) (ls := ls) (by simpa using h) n with ⟨h1, h2⟩ | ⟨i, l', h1, h2, h3, h4⟩
      · exact .inl ⟨h1, by rw [List.mem_cons, not_or]; exact ⟨fun q => e q.symm, h2⟩⟩
      · exact .inr ⟨i + 1, l', h1, h2, h3, List.mem_cons_of_mem _ h4⟩
theorem paired_ix {α β : Type} {F : α → β → Prop} : ∀ {xs : List α} {ys : List β}, Paired F xs ys → ∀ {i : Nat} {x : α} {y : β}, xs[i]? = some x → ys[i]? = some y → F x y
  | _, _, .nil, i, x, y, h, _ => by simp at h
  | _, _, .cons h t, 0, x, y, h1, h2 => by
    have e1 := Option.some.inj h1
    have e2 := Option.some.inj h2
    subst e1 e2
    exact h
  | _, _, .cons h t, i + 1, x, y, h1, h2 => paired_ix t h1 h2
theorem StoredAt.look {H : Hp} {st : Addr} {names : List Str} {ls : List Addr} {f : Str → List (Str × List Str)} (h : StoredAt H st names ls f) (n : Str) :
    (valV (zipK names ls) (Sum.inr n : Key) = none ∧ n ∉ names) ∨ ∃ (i : Nat) (l : Addr), names[i]? = some n ∧ ls[i]? = some l ∧ valV (zipK names ls) (Sum.inr n : Key) = some (.ref l) ∧ n ∈ names ∧ ListAt H l (f n) := by
  rcases zipK_val (paired_len h.2.1) n with h1 | ⟨i, l, h1, h2, h3, h4⟩
  · exact .inl h1
  · exact .inr ⟨i, l, h1, h2, h3, h4, paired_ix h.2.1 h1 h2⟩
/-- a list of rules as it is handed in -/
def TrioAt (H : Hp) (t : Addr) (r : Rule) : Prop := ∃ w, H t = some (.tup [.str r.1, .str r.2.1, .ref w]) ∧ H w = some (.lst (r.2.2.map V.str))
def TriosAt (H : Hp) (l : Addr) (rs : List Rule) : Prop := ∃ ts : List Addr, H l = some (.lst (ts.map V.ref)) ∧ Paired (TrioAt H) ts rs
theorem TrioAt.same {H H' : Hp} (e : Same H H') {t : Addr} {p : Rule} (h : TrioAt H t p) : TrioAt H' t p := by
  obtain ⟨w, h1, h2⟩ := h
  exact ⟨w, e _ _ h1, e _ _ h2⟩
theorem TriosAt.same {H H' : Hp} (e : Same H H') {l : Addr} {ps : List Rule} (h : TriosAt H l ps) : TriosAt H' l ps := by
  obtain ⟨ts, h1, h2⟩ := h
  exact ⟨ts, e _ _ h1, Paired.mapP h2 fun _ _ => TrioAt.same e⟩
abbrev eRow : (Str × List Str) → PyData := e2 PyData.str eSs
abbrev eTrio : Rule → PyData := e3 PyData.str PyData.str eSs
theorem enc_Row : Enc eRow := enc_2 enc_str enc_Ss
theorem enc_Trio : Enc eTrio := enc_3 enc_str enc_str enc_Ss
theorem dep_Row : Dep eRow 2 := dep_2 dep_str dep_Ss
theorem dep_Trio : Dep eTrio 2 := dep_3 dep_str dep_str dep_Ss
theorem dp_row {K : PySem.W.Frag} {H : Hp} {t : Addr} {p : Str × List Str} (h : RuleAt H t p) : Dp K H (.ref t) (eRow p) := by
  obtain ⟨w, h1, h2⟩ := h
  exact .tup (SqT.of h1) (.cons (.str _) (.cons (dp_Ss h2) .nil))
theorem dp_trio {K : PySem.W.Frag} {H : Hp} {t : Addr} {p : Rule} (h : TrioAt H t p) : Dp K H (.ref t) (eTrio p) := by
  obtain ⟨w, h1, h2⟩ := h
  exact .tup (SqT.of h1) (.cons (.str _) (.cons (.str _) (.cons (dp_Ss h2) .nil)))
theorem dpAll_paired {α : Type} {K : PySem.W.Frag} {H : Hp} {F : Addr → α → Prop} {e : α → PyData} (k : ∀ t p, F t p → Dp K H (.ref t) (e p)) : ∀ {ts : List Addr} {ps : List α}, Paired F ts ps → DpAll K H (ts.map V.ref) (ps.map e)
  | _, _, .nil => .nil
  | _, _, .cons h t => .cons (k _ _ h) (dpAll_paired k t)
theorem dp_rows {K : PySem.W.Frag} {H : Hp} {l : Addr} {ps : List (Str × List Str)} (h : ListAt H l ps) : Dp K H (.ref l) (eL eRow ps) := by
  obtain ⟨ts, h1, h2⟩ := h
  exact .lst (SqL.of h1) (dpAll_paired (e := eRow) (fun _ _ => dp_row) h2)
theorem dp_trios {K : PySem.W.Frag} {H : Hp} {l : Addr} {ps : List Rule} (h : TriosAt H l ps) : Dp K H (.ref l) (eL eTrio ps) := by
  obtain ⟨ts, h1, h2⟩ := h
  exact .lst (SqL.of h1) (dpAll_paired (e := eTrio) (fun _ _ => dp_trio) h2)
/-- a new list of new rows -/
def NewRows (H H' : Hp) (p : Addr) (ps : List (Str × List Str)) : Prop := H p = none ∧ Same H H' ∧ ∃ ts : List Addr, H' p = some (.lst (ts.map V.ref)) ∧ Paired (fun t (r : Str × List Str) => H t = none ∧ ∃ w, H w = none ∧ H' t = some (.tup [.str r.1, .ref w]) ∧ H' w = some (.lst (r.2.map V.str))) ts ps
theorem NewRows.at_ {H H' : Hp} {p : Addr} {ps : List (Str × List Str)} (h : NewRows H H' p ps) : ListAt H' p ps := by
  obtain ⟨_, _, ts, h1, h2⟩ := h
  exact ⟨ts, h1, Paired.mapP h2 fun _ _ ⟨_, w, _, h3, h4⟩ => ⟨w, h3, h4⟩⟩
/-- a new list of new trios -/
def NewTrios (H H' : Hp) (p : Addr) (rs : List Rule) : Prop := H p = none ∧ Same H H' ∧ ∃ ts : List Addr, H' p = some (.lst (ts.map V.ref)) ∧ Paired (fun t (r : Rule) => H t = none ∧ ∃ w, H w = none ∧ H' t = some (.tup [.str r.1, .str r.2.1, .ref w]) ∧ H' w = some (.lst (r.2.2.map V.str))) ts rs
theorem NewTrios.at_ {H H' : Hp} {p : Addr} {ps : List Rule} (h : NewTrios H H' p ps) : TriosAt H' p ps := by
  obtain ⟨_, _, ts, h1, h2⟩ := h
  exact ⟨ts, h1, Paired.mapP h2 fun _ _ ⟨_, w, _, h3, h4⟩ => ⟨w, h3, h4⟩⟩
end SG
/-! what the laws' own helpers speak of: digits, states, called names -/
namespace SG
open PySem PySem.Spec PyProof.Rows L2
/-- digits of the law's: from 0 to 1008 -/
def Digs (ns : List Int) : Prop := ∀ x ∈ ns, 0 ≤ x ∧ x < 1009
def sp_digits : Sp := fun vs H Q _ => ∃ c n : Int, vs = [.int c, .int n] ∧ 0 < n ∧ n ≤ 1000 ∧ ∀ p H' (ns : List Int), Same H H' → H p = none → H' p = some (.lst (ns.map V.int)) → (ns.length : Int) = n → Digs ns → Q (.ref p) H'
theorem Digs.snoc {ns : List Int} {x : Int} (h : Digs ns) (h0 : 0 ≤ x) (h1 : x < 1009) : Digs (ns ++ [x]) := fun y hy => by
  rcases List.mem_append.mp hy with hy | hy
  · exact h y hy
  · rw [List.mem_singleton.mp hy]; exact ⟨h0, h1⟩
/-! ### the law's state: its digits, its place -/
def StAt (H : Hp) (s d : Addr) : Prop := d ≠ s ∧ (∃ k : Int, H s = some (.lst [.ref d, .int k])) ∧ ∃ ns : List Int, H d = some (.lst (ns.map V.int)) ∧ ns ≠ [] ∧ ns.length ≤ 1000 ∧ Digs ns
/-- all but s is kept -/
def But (s : Addr) (H H' : Hp) : Prop := ∀ a o, a ≠ s → H a = some o → H' a = some o
theorem But.refl (s : Addr) (H : Hp) : But s H H := fun _ _ _ h => h
theorem But.trans {s : Addr} {H H1 H2 : Hp} (a : But s H H1) (b : But s H1 H2) : But s H H2 := fun x o n h => b x o n (a x o n h)
theorem But.same {s : Addr} {H H1 H2 : Hp} (a : But s H H1) (b : Same H1 H2) : But s H H2 := fun x o n h => b x o (a x o n h)
theorem but_of_same {s : Addr} {H H1 : Hp} (b : Same H H1) : But s H H1 := fun x o _ h => b x o h
/-- a cell that H does not know may change -/
theorem But.cell {s p : Addr} {H H1 : Hp} (a : But s H H1) (hp : H p = none) (o : HO) : But s H (upd H1 p o) := fun x u n h => by rw [upd_ne (ne_of_none h hp)]; exact a x u n h
theorem But.own {s : Addr} {H H1 : Hp} (a : But s H H1) (o : HO) : But s H (upd H1 s o) := fun x u n h => by rw [upd_ne n]; exact a x u n h
theorem StAt.s_some {H : Hp} {s d : Addr} (h : StAt H s d) : ∃ o, H s = some o := let ⟨_, ⟨_, h⟩, _⟩ := h; ⟨_, h⟩
theorem StAt.d_some {H : Hp} {s d : Addr} (h : StAt H s d) : ∃ o, H d = some o := let ⟨_, _, _, h, _⟩ := h; ⟨_, h⟩
theorem But.free {s d : Addr} {H H' : Hp} (a : But s H H') (h : StAt H' s d) {p : Addr} (hp : H' p = none) : H p = none := by
  cases e : H p with
  | none => rfl
  | some o =>
    by_cases n : p = s
    · obtain ⟨o', h⟩ := h.s_some
      rw [n, h] at hp
      cases hp
    · rw [a p o n e] at hp
      cases hp
theorem StAt.same {H H' : Hp} {s d : Addr} (h : StAt H s d) (e : Same H H') : StAt H' s d := by
  obtain ⟨n, ⟨k, h1⟩, ns, h2, r⟩ := h
  exact ⟨n, ⟨k, e _ _ h1⟩, ns, e _ _ h2, r⟩
theorem StAt.cell {H H0 : Hp} {s d p : Addr} (h : StAt H s d) {o : HO} (h0 : StAt H0 s d) (hp : H0 p = Option.none) : StAt (upd H p o) s d := by
  obtain ⟨n, ⟨k, h1⟩, ns, h2, r⟩ := h
  obtain ⟨os, g1⟩ := h0.s_some
  obtain ⟨od, g2⟩ := h0.d_some
  exact ⟨n, ⟨k, by rw [upd_ne (ne_of_none g1 hp)]; exact h1⟩, ns, by rw [upd_ne (ne_of_none g2 hp)]; exact h2, r⟩
def sp_next : Sp := fun vs H Q _ => ∃ s d : Addr, vs = [.ref s] ∧ StAt H s d ∧ ∀ (j : Int) H', 0 ≤ j → j < 1009 → But s H H' → StAt H' s d → Q (.int j) H'
/-- small letters -/
def Smalls (l : List Nat) : Prop := ∀ c ∈ l, 97 ≤ c ∧ c < 123
theorem abc : (("abcdefghijklmnopqrstuvwxyz" : Str)).cps.toList = (List.range 26).map (97 + ·) := by decide +kernel
theorem abc6 : (("abcdef" : Str)).cps.toList = (List.range 6).map (97 + ·) := by decide +kernel
/-- the i-th name: a word of at most seven letters and the i-th letter -/
def CalledAt (i : Nat) (x : Str) : Prop := ∃ l : List Nat, x = ⟨(l ++ [97 + i]).toArray⟩ ∧ l.length ≤ 7 ∧ Smalls l
def Called (n : Nat) (xs : List Str) : Prop := xs.length = n ∧ ∀ i x, xs[i]? = some x → CalledAt i x
def sp_called : Sp := fun vs H Q _ => ∃ (s d : Addr) (n : Nat), vs = [.ref s, .int n] ∧ n ≤ 6 ∧ StAt H s d ∧ ∀ p H' (xs : List Str), H p = none → But s H H' → StAt H' s d → H' p = some (.lst (xs.map V.str)) → Called n xs → Q (.ref p) H'
theorem letter_at {i : Int} (h0 : 0 ≤ i) (h1 : i < 26) : atI (("abcdefghijklmnopqrstuvwxyz" : Str)).cps.toList i = some (97 + i.toNat) := by
  rw [atI_eq h0 (by rw [abc]; simpa using h1), abc, List.getElem?_map, List.getElem?_range (by omega)]
  rfl
theorem letter6_at {i : Int} (h0 : 0 ≤ i) (h1 : i < 6) : atI (("abcdef" : Str)).cps.toList i = some (97 + i.toNat) := by
  rw [atI_eq h0 (by rw [abc6]; simpa using h1), abc6, List.getElem?_map, List.getElem?_range (by omega)]
  rfl
theorem StAt.ne_strs {H : Hp} {s d a : Addr} {ms : List Str} (h : StAt H s d) (e : H a = some (.lst (ms.map V.str))) : a ≠ s := fun q => by
  obtain ⟨_, ⟨k, h1⟩, _⟩ := h
  rw [q, h1] at e
  cases ms with
  | nil => cases e
  | cons x r => cases e
theorem StAt.ne_dk {H : Hp} {s d a : Addr} {kvs : List (Key × V)} (h : StAt H s d) (e : H a = some (.dK kvs)) : a ≠ s := fun q => by
  obtain ⟨_, ⟨k, h1⟩, _⟩ := h
  rw [q, h1] at e
  cases e
theorem But.under {s : Addr} {H H' H1 : Hp} (a : But s H H') (h : H1 s = none) (e : Same H1 H) : Same H1 H' := fun x o g => a x o (ne_of_none g h) (e x o g)

def sp_drawn : Sp := fun vs H Q _ => ∃ (s d a : Addr) (xs : List Str) (m : Nat), vs = [.ref s, .ref a, .int m] ∧ m ≤ 1000 ∧ xs.length ≤ 1000 ∧ StAt H s d ∧ H a = some (.lst (xs.map V.str)) ∧ ∀ p H' (row : List Str), H p = none → But s H H' → StAt H' s d → H' p = some (.lst (row.map V.str)) → row.length ≤ m → (∀ x ∈ row, x ∈ xs) → Q (.ref p) H'
/-! ### drawn grammars -/
/-- the rules of a drawn grammar -/
structure GoodR (names : List Str) (rs : List Rule) : Prop where
  nd : rs.Nodup
  ok : ∀ r ∈ rs, r.1 ∈ names ∧ isLetter r.2.1 = true ∧ r.2.2.length ≤ 3 ∧ ∀ x ∈ r.2.2, x ∈ names
  few : ∀ n, (rulesOf rs n).length ≤ 4
theorem rulesOf_perm {rs qs : List Rule} (h : rs.Perm qs) (n : Str) : (rulesOf rs n).Perm (rulesOf qs n) := (h.filter _).map _
theorem GoodR.perm {names ns : List Str} {rs qs : List Rule} (g : GoodR names rs) (hn : ∀ x, x ∈ names → x ∈ ns) (h : rs.Perm qs) : GoodR ns qs where
  nd := h.nodup_iff.mp g.nd
  ok := fun r hr => let ⟨a, b, c, d⟩ := g.ok r (h.mem_iff.mpr hr); ⟨hn _ a, b, c, fun x hx => hn _ (d x hx)⟩
  few := fun n => by rw [← (rulesOf_perm h n).length_eq]; exact g.few n
theorem mem_rulesOf {rs : List Rule} {n : Str} {p : Str × List Str} : p ∈ rulesOf rs n ↔ (n, p) ∈ rs := by
  unfold rulesOf
  rw [List.mem_map]
  constructor
  · rintro ⟨r, hr, rfl⟩
    rw [List.mem_filter, decide_eq_true_eq] at hr
    rw [← hr.2]
    exact hr.1
  · intro h
    exact ⟨(n, p), List.mem_filter.mpr ⟨h, decide_eq_true rfl⟩, rfl⟩
theorem rulesOf_take_lt : ∀ {rs : List Rule} {i : Nat} {r : Rule}, rs[i]? = some r → (rulesOf (rs.take i) r.1).length < (rulesOf rs r.1).length
  | [], i, r, h => by simp at h
  | x :: rs, 0, r, h => by
    have e : x = r := Option.some.inj h
    subst e
    unfold rulesOf
    simp
  | x :: rs, i + 1, r, h => by
    have ih := rulesOf_take_lt (rs := rs) (i := i) (r := r) (by simpa using h)
    rw [List.take_succ_cons]
    unfold rulesOf at *
    by_cases e : x.1 = r.1
    · simp only [List.filter_cons, e, decide_true, if_true, List.map_cons, List.length_cons]
      omega
    · simp only [List.filter_cons, e, decide_false, Bool.false_eq_true, if_false]
      exact ih
theorem not_mem_take_nd {α : Type} {xs : List α} {i : Nat} {x : α} (h : xs.Nodup) (e : xs[i]? = some x) : x ∉ xs.take i := fun m => by
  have hd := List.take_append_drop i xs
  have hx : x ∈ xs.drop i := by
    obtain ⟨hl, hx⟩ := List.getElem?_eq_some_iff.mp e
    rw [List.drop_eq_getElem_cons hl, hx]
    exact List.mem_cons_self
  rw [← hd, List.nodup_append] at h
  exact h.2.2 x m x hx rfl
theorem GoodR.rulesOk {names : List Str} {rs : List Rule} (g : GoodR names rs) : rulesOk names rs := fun i r h => by
  have hm := List.mem_of_getElem? h
  obtain ⟨a, b, c, d⟩ := g.ok r hm
  have h4 := rulesOf_take_lt h
  have h5 := g.few r.1
  have h6 : r.2 ∉ rulesOf (rs.take i) r.1 := fun z => not_mem_take_nd g.nd h (by rw [mem_rulesOf] at z; exact z)
  unfold letsBy
  simp only [Bool.and_eq_true, decide_eq_true_eq, List.all_eq_true]
  exact ⟨⟨⟨⟨⟨a, b⟩, c⟩, d⟩, by omega⟩, h6⟩
/-- names up to the k-th have four rules at most, the k-th has c, those behind have one -/
def FewR (names : List Str) (rs : List Rule) (k c : Nat) : Prop := ∀ (i : Nat) n, names[i]? = some n → (rulesOf rs n).length ≤ if i < k then 4 else if i = k then c else 1
theorem FewR.put {names : List Str} {rs : List Rule} {k c : Nat} {r : Rule} (h : FewR names rs k c) (nd : names.Nodup) (e : names[k]? = some r.1) : FewR names (rs ++ [r]) k (c + 1) := fun i n hi => by
  have := h i n hi
  rw [rulesOf_snoc]
  by_cases c1 : r.1 = n
  · have e2 : i = k := nd_ix nd hi (c1 ▸ e)
    subst e2
    rw [if_pos c1, List.length_append]
    simp only [Nat.lt_irrefl, if_false, if_true, List.length_cons, List.length_nil] at this ⊢
    omega
  · rw [if_neg c1]
    split <;> rename_i h1
    · rw [if_pos h1] at this; exact this
    · rw [if_neg h1] at this
      split <;> rename_i h2
      · rw [if_pos h2] at this; omega
      · rw [if_neg h2] at this; exact this
theorem FewR.up {names : List Str} {rs : List Rule} {k c : Nat} (h : FewR names rs k c) : FewR names rs k (c + 1) := fun i n hi => by
  have := h i n hi
  split <;> rename_i h1
  · rw [if_pos h1] at this; exact this
  · rw [if_neg h1] at this
    split <;> rename_i h2
    · rw [if_pos h2] at this; omega
    · rw [if_neg h2] at this; exact this
theorem FewR.next {names : List Str} {rs : List Rule} {k c : Nat} (h : FewR names rs k c) (hc : c ≤ 4) : FewR names rs (k + 1) 1 := fun i n hi => by
  have := h i n hi
  split <;> rename_i h1
  · split at this
    · exact this
    · split at this
      · omega
      · omega
  · have h2 : ¬ i < k := by omega
    have h3 : ¬ i = k := by omega
    rw [if_neg h2, if_neg h3] at this
    split <;> exact this
theorem GoodR.of {names : List Str} {rs : List Rule} {k : Nat} (nd : rs.Nodup) (ok : ∀ r ∈ rs, r.1 ∈ names ∧ isLetter r.2.1 = true ∧ r.2.2.length ≤ 3 ∧ ∀ x ∈ r.2.2, x ∈ names) (h : FewR names rs k 1) : GoodR names rs := ⟨nd, ok, fun n => by
  by_cases hn : n ∈ names
  · obtain ⟨i, hi⟩ := List.mem_iff_getElem?.mp hn
    have := h i n hi
    split at this
    · exact this
    · split at this <;> omega
  · have e : rulesOf rs n = [] := by
      rw [List.eq_nil_iff_forall_not_mem]
      intro p hp
      exact hn (ok _ (mem_rulesOf.mp hp)).1
    rw [e]
    exact Nat.zero_le _⟩
theorem FewR.first {names : List Str} {rs : List Rule} (nd : names.Nodup) (e : rs.map (·.1) = names) : FewR names rs 0 1 := fun i n hi => by
  have h1 : (rulesOf rs n).length ≤ 1 := by
    have h2 : (rulesOf rs n).length = ((rs.map (·.1)).filter fun x => decide (x = n)).length := by
      unfold rulesOf
      rw [List.length_map, List.filter_map, List.length_map]
      rfl
    rw [h2, e]
    have h3 := nd.filter fun x => decide (x = n)
    have h4 : ∀ x ∈ names.filter (fun x => decide (x = n)), x = n := fun x hx => by simpa using (List.mem_filter.mp hx).2
    match h5 : names.filter (fun x => decide (x = n)) with
    | [] => exact Nat.zero_le _
    | [x] => exact Nat.le_refl _
    | x :: y :: t =>
      rw [h5] at h3 h4
      have e1 := h4 x List.mem_cons_self
      have e2 := h4 y (List.mem_cons_of_mem _ List.mem_cons_self)
      exact absurd (e1.trans e2.symm) ((List.pairwise_cons.mp h3).1 y List.mem_cons_self)
  split
  · omega
  · split <;> exact h1
/-! called names are names -/
theorem small_list {l : List Nat} (h : Smalls l) : isSmall ⟨l.toArray⟩ = true := by
  unfold isSmall
  rw [List.all_eq_true]
  intro c hc
  have h2 := h c (by simpa using hc)
  rw [decide_eq_true_eq, abcL, List.mem_map]
  exact ⟨c - 97, by rw [List.mem_range]; omega, by omega⟩
theorem CalledAt.name {i : Nat} {x : Str} (hi : i < 6) (h : CalledAt i x) : isName x = true := by
  obtain ⟨l, rfl, hl, hs⟩ := h
  have h1 : (⟨(l ++ [97 + i]).toArray⟩ : Str).length = l.length + 1 := by
    show (l ++ [97 + i]).toArray.size = _
    simp
  have hs2 : Smalls (l ++ [97 + i]) := fun c hc => by
    rcases List.mem_append.mp hc with hc | hc
    · exact hs c hc
    · rw [List.mem_singleton.mp hc]; omega
  have hne : (⟨(l ++ [97 + i]).toArray⟩ : Str) ≠ ("names" : Str) := fun e => by
    have e2 : l ++ [97 + i] = ("names" : Str).cps.toList := by rw [← e]
    have e3 : ("names" : Str).cps.toList = [110, 97, 109, 101] ++ [115] := by decide +kernel
    rw [e3] at e2
    have e4 := (List.append_inj' e2 rfl).2
    simp at e4
    omega
  unfold isName
  simp only [Bool.and_eq_true, decide_eq_true_eq]
  exact ⟨⟨⟨by omega, by omega⟩, small_list hs2⟩, hne⟩
theorem CalledAt.inj {i j : Nat} {x : Str} (h : CalledAt i x) (h' : CalledAt j x) : i = j := by
  obtain ⟨l, rfl, _, _⟩ := h
  obtain ⟨m, e, _, _⟩ := h'
  have e2 : l ++ [97 + i] = m ++ [97 + j] := by
    have := congrArg (fun z : Str => z.cps.toList) e
    simpa using this
  have e4 := (List.append_inj' e2 rfl).2
  simp at e4
  omega
theorem Called.nd {n : Nat} {xs : List Str} (h : Called n xs) : xs.Nodup := by
  refine List.pairwise_iff_getElem.mpr fun i j hi hj hij e => ?_
  have h1 : xs[i]? = some xs[j] := by rw [← e]; exact List.getElem?_eq_getElem hi
  have := (h.2 i _ h1).inj (h.2 j _ (List.getElem?_eq_getElem hj))
  omega
theorem Called.names {n : Nat} {xs : List Str} (h : Called n xs) (h0 : 1 ≤ n) (h6 : n ≤ 6) : areNames xs = true := by
  have h1 := h.1
  unfold areNames
  simp only [Bool.and_eq_true, decide_eq_true_eq, List.all_eq_true]
  refine ⟨⟨⟨by omega, by omega⟩, h.nd⟩, fun x hx => ?_⟩
  obtain ⟨i, hi⟩ := List.mem_iff_getElem?.mp hx
  have := (List.getElem?_eq_some_iff.mp hi).1
  exact (h.2 i x hi).name (by omega)
theorem Called.mem_at {n : Nat} {xs : List Str} (h : Called n xs) (h6 : n ≤ 6) {x : Str} (hx : x ∈ xs) : ∃ i, i < 6 ∧ CalledAt i x := by
  obtain ⟨i, hi⟩ := List.mem_iff_getElem?.mp hx
  have := (List.getElem?_eq_some_iff.mp hi).1
  have := h.1
  exact ⟨i, by omega, h.2 i x hi⟩
theorem areNames_perm {xs ys : List Str} (h : xs.Perm ys) (e : areNames xs = true) : areNames ys = true := by
  unfold areNames at *
  simp only [Bool.and_eq_true, decide_eq_true_eq, List.all_eq_true] at *
  obtain ⟨⟨⟨a, b⟩, c⟩, d⟩ := e
  rw [← h.length_eq]
  exact ⟨⟨⟨a, b⟩, h.nodup_iff.mp c⟩, fun x hx => d x (h.mem_iff.mpr hx)⟩
theorem isName_len {x : Str} (h : isName x = true) : x.length ≤ 8 := by
  unfold isName at h
  simp only [Bool.and_eq_true, decide_eq_true_eq] at h
  exact h.1.1.2
theorem areNames_len {xs : List Str} (e : areNames xs = true) : ∀ x ∈ xs, x.length ≤ 8 := fun x hx => by
  unfold areNames at e
  simp only [Bool.and_eq_true, List.all_eq_true] at e
  exact isName_len (e.2 x hx)
theorem isLetter_len {x : Str} (e : isLetter x = true) : x.length = 1 := by
  unfold isLetter at e
  simp only [Bool.and_eq_true, decide_eq_true_eq] at e
  exact e.1
theorem letters_ok : ∀ z ∈ ([("a" : Str), "ab", "xyz", "ab"]), z.length ≤ 3 ∧ 0 < z.cps.toList.length ∧ ∀ c ∈ z.cps.toList, isLetter ⟨#[c]⟩ = true := by
  decide +kernel
theorem turned_perm {α : Type} (xs : List α) (i : Nat) : xs.Perm (xs.drop i ++ xs.take i) := by
  have h := List.perm_append_comm (l₁ := xs.take i) (l₂ := xs.drop i)
  rw [List.take_append_drop] at h
  exact h
/-- a list of texts is no list of cells -/
theorem strs_refs {xs : List Str} {ts : List Addr} (e : (HO.lst (xs.map V.str)) = .lst (ts.map V.ref)) : ts = [] := by
  cases ts with
  | nil => rfl
  | cons t r => cases xs with
    | nil => cases e
    | cons x q => cases e

/-! ### a grammar in the drawing -/
theorem StAt.ne_refs {H : Hp} {s d a : Addr} {ts : List Addr} (h : StAt H s d) (e : H a = some (.lst (ts.map V.ref))) : a ≠ s := fun q => by
  obtain ⟨_, ⟨k, h1⟩, _⟩ := h
  rw [q, h1] at e
  match ts with
  | [] => cases e
  | [x] => cases e
  | x :: y :: t => cases e
theorem StAt.ne_tup {H : Hp} {s d a : Addr} {vs : List V} (h : StAt H s d) (e : H a = some (.tup vs)) : a ≠ s := fun q => by
  obtain ⟨_, ⟨k, h1⟩, _⟩ := h
  rw [q, h1] at e
  cases e
/-- a trio in new cells -/
def TrioF (H H' : Hp) (t : Addr) (r : Rule) : Prop := H t = none ∧ ∃ w, H w = none ∧ H' t = some (.tup [.str r.1, .str r.2.1, .ref w]) ∧ H' w = some (.lst (r.2.2.map V.str))
structure BuiltSt (H H' : Hp) (s d nl ru : Addr) (names : List Str) (rs : List Rule) : Prop where
  sm : Same H H'
  st : StAt H' s d
  nm : H' nl = some (.lst (names.map V.str))
  tr : ∃ ts : List Addr, H' ru = some (.lst (ts.map V.ref)) ∧ Paired (TrioF H H') ts rs
variable {H H' H2 : Hp} {s d nl ru : Addr} {names : List Str} {rs : List Rule}
theorem BuiltSt.same (b : BuiltSt H H' s d nl ru names rs) (e : Same H' H2) : BuiltSt H H2 s d nl ru names rs := by
  obtain ⟨ts, h1, h2⟩ := b.tr
  exact ⟨b.sm.trans e, b.st.same e, e _ _ b.nm, ts, e _ _ h1, Paired.mapP h2 fun _ _ ⟨a, w, c, h3, h4⟩ => ⟨a, w, c, e _ _ h3, e _ _ h4⟩⟩
theorem BuiltSt.but (b : BuiltSt H H' s d nl ru names rs) (hs : H s = none) (e : But s H' H2) (st : StAt H2 s d) : BuiltSt H H2 s d nl ru names rs := by
  obtain ⟨ts, h1, h2⟩ := b.tr
  exact ⟨fun a o h => e a o (ne_of_none h hs) (b.sm a o h), st, e _ _ (b.st.ne_strs b.nm) b.nm, ts, e _ _ (b.st.ne_refs h1) h1, Paired.mapP h2 fun _ _ ⟨a, w, c, h3, h4⟩ => ⟨a, w, c, e _ _ (b.st.ne_tup h3) h3, e _ _ (b.st.ne_strs h4) h4⟩⟩
/-- a dict of the drawing's changes -/
theorem BuiltSt.dict (b : BuiltSt H H' s d nl ru names rs) {x : Addr} {kvs kvs2 : List (Key × V)} (hx : H' x = some (.dK kvs)) (h0 : H x = none) : BuiltSt H (upd H' x (.dK kvs2)) s d nl ru names rs := by
  obtain ⟨ts, h1, h2⟩ := b.tr
  obtain ⟨n, ⟨k, g1⟩, ns, g2, r⟩ := b.st
  have kp : ∀ (a : Addr) (o : HO), H' a = some o → (∀ q, o ≠ .dK q) → upd H' x (.dK kvs2) a = some o := fun a o h n => by
    rw [upd_ne (fun z => by rw [z, hx] at h; exact n _ (Option.some.inj h).symm)]; exact h
  exact ⟨same_mut b.sm h0, ⟨n, ⟨k, kp _ _ g1 fun q z => by cases z⟩, ns, kp _ _ g2 fun q z => (by cases z), r⟩, kp _ _ b.nm fun q z => (by cases z), ts, kp _ _ h1 fun q z => (by cases z), Paired.mapP h2 fun _ _ ⟨a, w, c, h3, h4⟩ => ⟨a, w, c, kp _ _ h3 fun q z => (by cases z), kp _ _ h4 fun q z => (by cases z)⟩⟩
/-- a rule is put behind -/
theorem BuiltSt.put (b : BuiltSt H H' s d nl ru names rs) (hru : H ru = none) (hn : names ≠ []) {ts : List Addr} (hts : H' ru = some (.lst (ts.map V.ref))) {t w : Addr} {r : Rule} (nw : w ≠ ru) (h : TrioF H H' t r) (hw : H' t = some (.tup [.str r.1, .str r.2.1, .ref w])) :
    BuiltSt H (upd H' ru (.lst (ts.map V.ref ++ [.ref t]))) s d nl ru names (rs ++ [r]) := by
  obtain ⟨ts', h1, h2⟩ := b.tr
  have ets : ts' = ts := by
    rw [h1] at hts
    exact List.map_inj_right (fun x y q => V.ref.inj q) |>.mp (HO.lst.inj (Option.some.inj hts))
  subst ets
  obtain ⟨n, ⟨k, g1⟩, ns, g2, ne, r2⟩ := b.st
  have nnl : nl ≠ ru := fun z => by
    have h3 := b.nm
    rw [z, h1] at h3
    cases names with
    | nil => exact hn rfl
    | cons x q => cases ts' with
      | nil => cases h3
      | cons t r => cases h3
  have nd : d ≠ ru := fun z => by
    rw [z, h1] at g2
    cases ns with
    | nil => exact ne rfl
    | cons x q => cases ts' with
      | nil => cases g2
      | cons t r => cases g2
  have tp : ∀ (a : Addr) (vs : List V), H' a = some (.tup vs) → upd H' ru (.lst (ts'.map V.ref ++ [.ref t])) a = some (.tup vs) := fun a vs h => by
    rw [upd_ne (fun z => by rw [z, h1] at h; cases h)]; exact h
  have h3 : Paired (TrioF H (upd H' ru (.lst (ts'.map V.ref ++ [.ref t])))) ts' rs := by
    by_cases ce : ts' = []
    · rw [ce] at h2
      rw [ce]
      cases h2
      exact .nil
    · refine Paired.mapP h2 fun t' r' ⟨a, w', c, h3, h4⟩ => ⟨a, w', c, tp _ _ h3, ?_⟩
      rw [upd_ne]
      · exact h4
      · intro z
        rw [z, h1] at h4
        exact ce (strs_refs (Option.some.inj h4).symm)
  obtain ⟨a, w', c, h4, h5⟩ := h
  have ew : w' = w := by
    rw [hw] at h4
    have := HO.tup.inj (Option.some.inj h4)
    simp at this
    exact this.symm
  subst ew
  refine ⟨same_mut b.sm hru, ⟨n, ⟨k, by rw [upd_ne (fun z => by rw [← z] at h1; exact b.st.ne_refs h1 rfl)]; exact g1⟩, ns, by rw [upd_ne nd]; exact g2, ne, r2⟩, by rw [upd_ne nnl]; exact b.nm, ts' ++ [t], by rw [upd_same, List.map_append]; rfl, ?_⟩
  exact paired_app (F := TrioF H _) ⟨a, w', c, tp _ _ h4, by rw [upd_ne nw]; exact h5⟩ h3

def intOf (kvs : List (Key × V)) (n : Str) : Int := match valV kvs (Sum.inr n : Key) with
  | some (.int z) => z
  | _ => 0
theorem intOf_eq {kvs : List (Key × V)} {n : Str} (h : ∃ z : Int, valV kvs (Sum.inr n : Key) = some (.int z)) : valV kvs (Sum.inr n : Key) = some (.int (intOf kvs n)) := by
  obtain ⟨z, hz⟩ := h
  unfold intOf
  rw [hz]
theorem letter_ix {z : Str} (h : 0 < z.cps.toList.length) (j : Int) : ∃ c, atI z.cps.toList (j % (z.length : Int)) = some c ∧ c ∈ z.cps.toList := by
  have e : (z.length : Int) = (z.cps.toList.length : Int) := by show ((z.cps.size : Nat) : Int) = _; simp
  rw [e]
  exact atI_some (Int.emod_nonneg _ (by omega)) (Int.emod_lt_of_pos _ (by omega))
def sp_built : Sp := fun vs H Q _ => ∃ (c : Int) (n : Nat), vs = [.int c, .int n] ∧ 1 ≤ n ∧ n ≤ 6 ∧ ∀ p na ru H' (names : List Str) (rs : List Rule), Same H H' → H p = none → H na = none → H ru = none → na ≠ ru → H' p = some (.tup [.ref na, .ref ru]) → H' na = some (.lst (names.map V.str)) →
  (∃ ts : List Addr, H' ru = some (.lst (ts.map V.ref)) ∧ Paired (TrioF H H') ts rs) → areNames names = true → (∀ x ∈ names, ∃ i, i < 6 ∧ CalledAt i x) → GoodR names rs → rs ≠ [] → rs.length ≤ 24 → names.length = n → Q (.ref p) H'

theorem cut_ge (xs : List V) (n : Nat) : cutV xs (some (n : Int)) none = xs.drop n := by
  unfold cutV
  rw [HT.sIx_none, HT.sIx_nat]
  by_cases h : n ≤ xs.length
  · rw [Nat.min_eq_left h, List.take_of_length_le (by rw [List.length_drop]; exact Nat.le_refl _)]
  · rw [Nat.min_eq_right (by omega), Nat.sub_self, List.take_zero, List.drop_eq_nil_of_le (by omega)]
theorem paired_append {α β : Type} {F : α → β → Prop} : ∀ {xs : List α} {ys : List β} {xs2 : List α} {ys2 : List β}, Paired F xs ys → Paired F xs2 ys2 → Paired F (xs ++ xs2) (ys ++ ys2)
  | _, _, _, _, .nil, h => h
  | _, _, _, _, .cons a t, h => .cons a (paired_append t h)
theorem paired_take {α β : Type} {F : α → β → Prop} : ∀ {xs : List α} {ys : List β}, Paired F xs ys → ∀ i, Paired F (xs.take i) (ys.take i)
  | _, _, _, 0 => .nil
  | _, _, .nil, i + 1 => .nil
  | _, _, .cons a t, i + 1 => .cons a (paired_take t i)
theorem paired_drop {α β : Type} {F : α → β → Prop} : ∀ {xs : List α} {ys : List β}, Paired F xs ys → ∀ i, Paired F (xs.drop i) (ys.drop i)
  | _, _, h, 0 => h
  | _, _, .nil, i + 1 => .nil
  | _, _, .cons a t, i + 1 => paired_drop t i
theorem paired_turn {α β : Type} {F : α → β → Prop} {xs : List α} {ys : List β} (h : Paired F xs ys) (i : Nat) : Paired F (xs.drop i ++ xs.take i) (ys.drop i ++ ys.take i) := paired_append (paired_drop h i) (paired_take h i)

/-! ### rows that are spoilt -/
/-- tuples of m texts and a row in a new cell, of n texts at most -/
def RowsM (m : Nat) (H0 H' : Hp) (ts : List Addr) (n : Nat) : Prop := ∀ t ∈ ts, ∃ (ks : List Str) (w : Addr) (xs : List Str), ks.length = m ∧ H0 w = none ∧ H' t = some (.tup (ks.map V.str ++ [.ref w])) ∧ H' w = some (.lst (xs.map V.str)) ∧ xs.length ≤ n
theorem RowsM.mut {m : Nat} {H0 H' : Hp} {ts : List Addr} {n : Nat} (h : RowsM m H0 H' ts n) {w : Addr} {xs : List Str} (hw : H' w = some (.lst (xs.map V.str))) (hl : xs.length ≤ n) (y : Str) : RowsM m H0 (upd H' w (.lst (xs.map V.str ++ [.str y]))) ts (n + 1) := fun t ht => by
  obtain ⟨ks, w', zs, h1, h2, h3, h4, h5⟩ := h t ht
  have e3 : upd H' w (.lst (xs.map V.str ++ [.str y])) t = some (.tup (ks.map V.str ++ [.ref w'])) := by
    rw [upd_ne (ne_of h3 hw (by intro z; cases z))]; exact h3
  by_cases e : w' = w
  · subst e
    exact ⟨ks, w', xs ++ [y], h1, h2, e3, by rw [upd_same, List.map_append]; rfl, by rw [List.length_append]; exact Nat.succ_le_succ hl⟩
  · exact ⟨ks, w', zs, h1, h2, e3, by rw [upd_ne e]; exact h4, by omega⟩
theorem RowsM.same {m : Nat} {H0 H' H2 : Hp} {ts : List Addr} {n : Nat} (h : RowsM m H0 H' ts n) (e : Same H' H2) : RowsM m H0 H2 ts n := fun t ht => by
  obtain ⟨ks, w', zs, h1, h2, h3, h4, h5⟩ := h t ht
  exact ⟨ks, w', zs, h1, h2, e _ _ h3, e _ _ h4, h5⟩
/-- the list of the tuples stands while rows are spoilt -/
theorem refs_kept {H' : Hp} {p w : Addr} {ts : List Addr} {xs : List Str} {t : Addr} {o : HO} (hp : H' p = some (.lst (ts.map V.ref))) (ht : t ∈ ts) (hw : H' w = some (.lst (xs.map V.str))) : upd H' w o p = some (.lst (ts.map V.ref)) := by
  rw [upd_ne]
  · exact hp
  · intro z
    rw [z, hw] at hp
    have := strs_refs (Option.some.inj hp)
    rw [this] at ht
    cases ht
/-! two lists beside one another -/
variable {α β : Type} [DecidableEq α] [DecidableEq β] {ea : α → PyData} {eb : β → PyData}
def eLL (ea : α → PyData) (eb : β → PyData) (p : α × β) : PyData := .list [ea p.1, eb p.2]
theorem enc_LL (h : Enc ea) (h' : Enc eb) : Enc (eLL ea eb) := fun x y => by
  unfold eLL
  simp only [PyData.eqv, PyData.eqvAll, h x.1 y.1, h' x.2 y.2, Bool.and_true]
  by_cases h1 : x.1 = y.1 <;> by_cases h2 : x.2 = y.2 <;> simp [h1, h2, Prod.ext_iff]
theorem dep_LL {n m : Nat} (h : Dep ea n) (h' : Dep eb m) : Dep (eLL ea eb) (max n m + 1) := fun p => by
  unfold eLL
  simp only [PyData.depth, PyData.depthAll]
  have := h p.1
  have := h' p.2
  omega
theorem enc_self (h : Enc ea) (x : α) : PyData.eqv (ea x) (ea x) = true := by rw [h]; simp
theorem GramAt.ins {C : Addr} {H : Hp} {g : Addr} {names : List Str} {rs : List Rule} (G : GramAt C H g names rs) : ∃ dx kn st od, H g = some (.ins C dx (gfs kn st od)) := by
  obtain ⟨dx, kn, st, od, ls, h, _⟩ := G.ex
  exact ⟨dx, kn, st, od, h⟩
/-- what a name is followed by q is no name -/
theorem called_q {names : List Str} (h : ∀ x ∈ names, ∃ i, i < 6 ∧ CalledAt i x) (x : Str) : x ++ ("q" : Str) ∉ names := fun hx => by
  obtain ⟨i, hi, l, e, _, _⟩ := h _ hx
  have e2 : x.cps.toList ++ [113] = l ++ [97 + i] := by
    have := congrArg (fun z : Str => z.cps.toList) e
    have e3 : (x ++ ("q" : Str)).cps.toList = x.cps.toList ++ ("q" : Str).cps.toList := by
      show (x.cps ++ ("q" : Str).cps).toList = _
      simp
    have e4 : ("q" : Str).cps.toList = [113] := by decide +kernel
    rw [← e4, ← e3]
    simpa using this
  have e4 := (List.append_inj' e2 rfl).2
  simp at e4
  omega
theorem called_nil {names : List Str} (h : ∀ x ∈ names, ∃ i, i < 6 ∧ CalledAt i x) : ("" : Str) ∉ names := fun hx => by
  obtain ⟨i, hi, l, e, _, _⟩ := h _ hx
  have e4 : ("" : Str).cps.toList = [] := by decide +kernel
  rw [e] at e4
  simp at e4
/-- tuples in cells that are not D -/
def RowD (H' : Hp) (D t : Addr) (r : Str × List Str) : Prop := t ≠ D ∧ ∃ w, w ≠ D ∧ H' t = some (.tup [.str r.1, .ref w]) ∧ H' w = some (.lst (r.2.map V.str))
theorem RowsM.of_rows {H0 H' : Hp} {ts : List Addr} {ps : List (Str × List Str)} (h : Paired (fun t (r : Str × List Str) => H0 t = none ∧ ∃ w, H0 w = none ∧ H' t = some (.tup [.str r.1, .ref w]) ∧ H' w = some (.lst (r.2.map V.str))) ts ps) {n : Nat} (hn : ∀ p ∈ ps, p.2.length ≤ n) : RowsM 1 H0 H' ts n := fun t ht => by
  obtain ⟨i, hi⟩ := List.mem_iff_getElem?.mp ht
  obtain ⟨r, hr, _, w, h1, h2, h3⟩ := paired_get h hi
  exact ⟨[r.1], w, r.2, rfl, h1, h2, h3, hn r (List.mem_of_getElem? hr)⟩
theorem RowsM.of_trios {H0 H' : Hp} {ts : List Addr} {rs : List Rule} (h : Paired (fun t (r : Rule) => H0 t = none ∧ ∃ w, H0 w = none ∧ H' t = some (.tup [.str r.1, .str r.2.1, .ref w]) ∧ H' w = some (.lst (r.2.2.map V.str))) ts rs) {n : Nat} (hn : ∀ r ∈ rs, r.2.2.length ≤ n) : RowsM 2 H0 H' ts n := fun t ht => by
  obtain ⟨i, hi⟩ := List.mem_iff_getElem?.mp ht
  obtain ⟨r, hr, _, w, h1, h2, h3⟩ := paired_get h hi
  exact ⟨[r.1, r.2.1], w, r.2.2, rfl, h1, h2, h3, hn r (List.mem_of_getElem? hr)⟩

/-- none where the first heap knows nothing and the second does -/
def mixH (H H' : Hp) : Hp := fun a => match H' a with
  | none => some (.lst [])
  | some _ => H a
theorem mixH_none {H H' : Hp} (w : Addr) : mixH H H' w = none ↔ H w = none ∧ ∃ o, H' w = some o := by
  unfold mixH
  cases e : H' w with
  | none => simp
  | some o => simp

theorem letters_ok3 : ∀ z ∈ ([("a" : Str), "ab", "xyz"]), z.length ≤ 3 ∧ 0 < z.cps.toList.length ∧ ∀ c ∈ z.cps.toList, isLetter ⟨#[c]⟩ = true := by
  decide +kernel
def sp_of_any : Sp := fun vs H Q _ => ∃ (c : Int) (n : Nat), vs = [.int c, .int n] ∧ 1 ≤ n ∧ n ≤ 6 ∧ ∀ p na ru H' (names : List Str) (rs : List Rule), Same H H' → H p = none → H na = none → H ru = none → na ≠ ru → H' p = some (.tup [.ref na, .ref ru]) → H' na = some (.lst (names.map V.str)) →
  (∃ ts : List Addr, H' ru = some (.lst (ts.map V.ref)) ∧ Paired (TrioF H H') ts rs) → areNames names = true → (∀ x ∈ names, ∃ i, i < 6 ∧ CalledAt i x) → GoodR names rs → rs.length ≤ 24 → names.length = n → Q (.ref p) H'
end SG
/-! sorted of data that reads from a type of Lean's; what is told once -/
namespace SG
open PySem PySem.Spec PyProof.Rows L2
section
variable {α : Type}
/-- all alike -/
def Alk (e : α → PyData) : Prop := ∀ a b, PySem.W.alike (e a) (e b) = true
theorem alk_str : Alk PyData.str := fun a b => by rw [PySem.W.alike]
theorem alk_int : Alk PyData.int := fun a b => by rw [PySem.W.alike]
theorem alkAll {e : α → PyData} (h : Alk e) : ∀ xs ys : List α, PySem.W.alikeAll (xs.map e) (ys.map e) = true
  | [], ys => by rw [List.map_nil, PySem.W.alikeAll]
  | x :: r, [] => by rw [List.map_nil, List.map_cons, PySem.W.alikeAll]
  | x :: r, y :: t => by rw [List.map_cons, List.map_cons, PySem.W.alikeAll, h x y, alkAll h r t]; rfl
theorem alk_L {e : α → PyData} (h : Alk e) : Alk (eL e) := fun xs ys => by
  unfold eL
  rw [PySem.W.alike]
  exact alkAll h xs ys
theorem alk_2 {β : Type} {ea : α → PyData} {eb : β → PyData} (h : Alk ea) (h' : Alk eb) : Alk (e2 ea eb) := fun x y => by
  unfold e2
  rw [PySem.W.alike, PySem.W.alikeAll, PySem.W.alikeAll, PySem.W.alikeAll, h, h']
  rfl
theorem alk_3 {β γ : Type} {ea : α → PyData} {eb : β → PyData} {ec : γ → PyData} (h : Alk ea) (h' : Alk eb) (h'' : Alk ec) : Alk (e3 ea eb ec) := fun x y => by
  unfold e3
  rw [PySem.W.alike, PySem.W.alikeAll, PySem.W.alikeAll, PySem.W.alikeAll, PySem.W.alikeAll, h, h', h'']
  rfl
/-- sorted, as the program sorts -/
def leE (e : α → PyData) : α → α → Bool := PySem.W.dataLe false e
def esort (e : α → PyData) (xs : List α) : List α := xs.mergeSort (leE e)
theorem esort_perm (e : α → PyData) (xs : List α) : (esort e xs).Perm xs := List.mergeSort_perm _ _
theorem leE_total (e : α → PyData) : PySem.W.TotalLe (leE e) := PySem.W.sortLe_total (PyProof.Rows.listOrd PyProof.Rows.itemOrd) false fun b : α => PySem.W.keyToks (e b)
theorem esort_pair (e : α → PyData) (xs : List α) : (esort e xs).Pairwise fun a b => leE e a b = true := PySem.W.sort_pairwise (leE_total e) xs
theorem leE_anti [DecidableEq α] {e : α → PyData} (he : Enc e) (ha : Alk e) {a b : α} (h : leE e a b = true) (h' : leE e b a = true) : a = b := by
  have h1 : PySem.W.dataLt (e b) (e a) = false := by
    have : (!PySem.W.dataLt (e b) (e a)) = true := h
    simpa using this
  have h2 : PySem.W.dataLt (e a) (e b) = false := by
    have : (!PySem.W.dataLt (e a) (e b)) = true := h'
    simpa using this
  have ht := PyProof.Rows.lex_total _ _ h2 h1
  have hq := PySem.W.toks_eqv (e a) (e b) (ha a b)
  have := he a b
  by_cases c : a = b
  · exact c
  · rw [decide_eq_false c] at this
    have k := hq.2 this
    have k1 := k [] [Sum.inl 1]
    have k2 := k [Sum.inl 1] []
    rw [ht, PySem.W.lex_pre] at k1 k2
    have k3 := PyProof.Rows.lex_irrefl (O := PyProof.Rows.itemOrd) (PySem.W.keyToks (e b))
    rw [k3] at k1
    exact absurd k1 (by decide)
theorem esort_eq [DecidableEq α] {e : α → PyData} (he : Enc e) (ha : Alk e) {xs ys : List α} (h : xs.Perm ys) : esort e xs = esort e ys :=
  ((esort_perm e xs).trans (h.trans (esort_perm e ys).symm)).eq_of_pairwise (fun _ _ _ _ => leE_anti he ha) (esort_pair e xs) (esort_pair e ys)
/-- what is sorted is its own sorting -/
theorem esort_of [DecidableEq α] {e : α → PyData} (he : Enc e) (ha : Alk e) {xs ys : List α} (h : xs.Perm ys) (hp : xs.Pairwise fun a b => leE e a b = true) : xs = esort e ys :=
  (h.trans (esort_perm e ys).symm).eq_of_pairwise (fun _ _ _ _ => leE_anti he ha) hp (esort_pair e ys)
/-! ### each once, of what is sorted -/
variable [DecidableEq α]
def uniq1 (l : List α) (x : α) : List α := if l.getLast? = some x then l else l ++ [x]
def uniq (xs : List α) : List α := xs.foldl uniq1 []
theorem uniq_snoc (xs : List α) (x : α) : uniq (xs ++ [x]) = uniq1 (uniq xs) x := by
  unfold uniq
  rw [List.foldl_append]
  rfl
theorem list_snoc_ind {P : List α → Prop} (h0 : P []) (hs : ∀ xs x, P xs → P (xs ++ [x])) (xs : List α) : P xs := by
  have : ∀ ys : List α, P ys.reverse := fun ys => by
    induction ys with
    | nil => exact h0
    | cons y t ih => rw [List.reverse_cons]; exact hs _ _ ih
  have h := this xs.reverse
  rwa [List.reverse_reverse] at h
theorem uniq_sub (xs : List α) : (uniq xs).Sublist xs := by
  refine list_snoc_ind (P := fun xs => (uniq xs).Sublist xs) (List.Sublist.refl _) (fun xs x ih => ?_) xs
  rw [uniq_snoc]
  unfold uniq1
  split
  · exact ih.trans (List.sublist_append_left _ _)
  · exact ih.append (List.Sublist.refl _)
theorem uniq_last (xs : List α) : (uniq xs).getLast? = xs.getLast? := by
  refine list_snoc_ind (P := fun xs => (uniq xs).getLast? = xs.getLast?) rfl (fun xs x ih => ?_) xs
  rw [uniq_snoc]
  unfold uniq1
  split
  · rename_i h
    rw [h, List.getLast?_append]
    rfl
  · rw [List.getLast?_append, List.getLast?_append]
    rfl
theorem uniq_mem (xs : List α) : ∀ y, y ∈ uniq xs ↔ y ∈ xs := by
  refine list_snoc_ind (P := fun xs => ∀ y, y ∈ uniq xs ↔ y ∈ xs) (fun y => Iff.rfl) (fun xs x ih => fun y => ?_) xs
  rw [uniq_snoc]
  unfold uniq1
  split
  · rename_i h
    rw [List.mem_append, ih y, List.mem_singleton]
    constructor
    · exact .inl
    · rintro (h1 | rfl)
      · exact h1
      · exact (ih y).mp (List.mem_of_getLast? h)
  · rw [List.mem_append, List.mem_append, ih y]
theorem uniq_nd {e : α → PyData} (he : Enc e) (ha : Alk e) (xs : List α) (h : xs.Pairwise fun a b => leE e a b = true) : (uniq xs).Nodup := by
  revert h
  refine list_snoc_ind (P := fun xs => (xs.Pairwise fun a b => leE e a b = true) → (uniq xs).Nodup) (fun _ => List.nodup_nil) (fun xs x ih => fun h => ?_) xs
  rw [List.pairwise_append] at h
  have h1 := ih h.1
  rw [uniq_snoc]
  unfold uniq1
  split
  · exact h1
  · rename_i hc
    rw [List.nodup_append]
    refine ⟨h1, by simp, fun a ha' b hb e' => hc ?_⟩
    rw [List.mem_singleton.mp hb] at e'
    subst e'
    rw [uniq_last]
    have hax := (uniq_mem xs a).mp ha'
    cases hl : xs.getLast? with
    | none => rw [List.getLast?_eq_none_iff] at hl; rw [hl] at hax; cases hax
    | some z =>
      have hz : leE e z a = true := h.2.2 z (List.mem_of_getLast? hl) a (List.mem_singleton.mpr rfl)
      have hz2 : leE e a z = true := by
        obtain ⟨ys, hy⟩ := List.getLast?_eq_some_iff.mp hl
        rw [hy] at hax
        rcases List.mem_append.mp hax with k | k
        · have := h.1
          rw [hy, List.pairwise_append] at this
          exact this.2.2 a k z (List.mem_singleton.mpr rfl)
        · rw [List.mem_singleton.mp k]
          exact (leE_total e).refl z
      rw [leE_anti he ha hz2 hz]
theorem perm_of_nd {xs ys : List α} (h : xs.Nodup) (h' : ys.Nodup) (m : ∀ x, x ∈ xs ↔ x ∈ ys) : xs.Perm ys := by
  rw [List.perm_iff_count]
  intro a
  rw [List.Nodup.count h, List.Nodup.count h']
  simp only [m a]
/-- sorted and each once: it is the sorting of any list that tells each once -/
theorem uniq_esort {e : α → PyData} (he : Enc e) (ha : Alk e) {xs ys : List α} (h : ys.Nodup) (m : ∀ x, x ∈ xs ↔ x ∈ ys) : uniq (esort e xs) = esort e ys :=
  esort_of he ha (perm_of_nd (uniq_nd he ha _ (esort_pair e xs)) h fun x => by rw [uniq_mem, (esort_perm e xs).mem_iff]; exact m x) ((esort_pair e xs).sublist (uniq_sub _))
end

/-! ### sorted(xs) of data read from a type of Lean's: cells and what they hold go together -/
def Srt {α : Type} (e : α → PyData) : Prop := (∀ b, ∃ x r, e b = .tuple (x :: r)) ∨ (∀ b, e b ≠ .none ∧ ∀ xs, e b ≠ .tuple xs)
theorem Srt.sortable {α : Type} {e : α → PyData} (h : Srt e) (ps : List α) : PySem.W.Sortable (ps.map e) := h.elim PySem.W.Sortable.tuples PySem.W.Sortable.others
theorem srt_str : Srt PyData.str := .inr fun b => ⟨(fun h => by cases h), (fun xs h => by cases h)⟩
theorem srt_2 {α β : Type} (ea : α → PyData) (eb : β → PyData) : Srt (e2 ea eb) := .inl fun b => ⟨_, _, rfl⟩
theorem srt_3 {α β γ : Type} (ea : α → PyData) (eb : β → PyData) (ec : γ → PyData) : Srt (e3 ea eb ec) := .inl fun b => ⟨_, _, rfl⟩
theorem srt_L {α : Type} (ea : α → PyData) : Srt (eL ea) := .inr fun b => ⟨(fun h => by cases h), (fun xs h => by cases h)⟩
def rSortedG (K : PySem.W.Frag) : List V → Hp → VK → Prop := fun vs H Q => ∃ (α : Type) (e : α → PyData) (a : Addr) (xs : List V) (ps : List α), vs = [V.ref a] ∧ SqL K H a xs ∧ DpAll K H xs (ps.map e) ∧ Alk e ∧ Srt e ∧ (∀ p ∈ ps, (e p).depth ≤ 8) ∧
  ∀ (zs : List (V × α)) (q : Addr), zs.Perm (xs.zip ps) → zs.map (·.2) = esort e ps → H q = none → Q (.ref q) (upd H q (.lst (zs.map (·.1))))
theorem each_of_valsE {h : Heap} {α : Type} : ∀ {xs : List V} {us : List Value} {ds : List α}, Vals xs us → xs.length = ds.length → PySem.W.EachIs (fun (u : Value) (b : V × α) => RelV b.1 u) us (xs.zip ds)
  | _, _, ds, .nil, hl => by cases ds with
    | nil => exact .nil
    | cons d t => simp at hl
  | _, _, ds, .cons r t, hl => by cases ds with
    | nil => simp at hl
    | cons d k => exact .cons r (each_of_valsE (h := h) t (by simpa using hl))
theorem each_readsE {α : Type} {e : α → PyData} {X : Cx} {pins : List (Addr × Obj)} {σ : L2.St} {H : Hp} {s : Shared} (I : Inv X pins σ H s) : ∀ {xs : List V} {us : List Value} {ps : List α}, Vals xs us → DpAll X.K H xs (ps.map e) → PySem.W.EachIs (fun v (b : V × α) => ∃ as, Reads s.heap v (e b.2) as) us (xs.zip ps)
  | _, _, [], .nil, _ => .nil
  | _, _, p :: ps, .cons r t, .cons d k => .cons (Dp.reads I _ _ _ d r) (each_readsE I t k)
theorem vals_of_eachE {α : Type} : ∀ {us : List Value} {bs : List (V × α)}, PySem.W.EachIs (fun (u : Value) (b : V × α) => RelV b.1 u) us bs → Vals (bs.map (·.1)) us
  | _, _, .nil => .nil
  | _, _, .cons r t => .cons r (vals_of_eachE t)
theorem cr_sortedG {X : Cx} (hu : X.A.units + 64 < cLine) : CallR X (.builtin "sorted") (rSortedG X.K) := by
  intro pins s σ H vs us Q I r h
  obtain ⟨α, e, a, xs, ps, rfl, hs, hd, hal, hso, hdep, q⟩ := h
  obtain ⟨its, rv, hl, hz⟩ := I.list hs
  rw [Vals.ref1 r]
  have hlen : xs.length = ps.length := by rw [dpAll_len hd, List.length_map]
  have hm : (xs.zip ps).map (fun b => e b.2) = ps.map e := by
    have h0 : (xs.zip ps).map Prod.snd = ps := List.map_snd_zip (by omega)
    have h1 : ((xs.zip ps).map Prod.snd).map e = ps.map e := by rw [h0]
    rw [List.map_map] at h1
    exact h1
  have hm1 : (xs.zip ps).map Prod.fst = xs := List.map_fst_zip (by omega)
  have hm2 : (xs.zip ps).map Prod.snd = ps := List.map_snd_zip (by omega)
  refine PySem.W.sorted_data (enc := fun b : V × α => e b.2) hl.isList (each_of_valsE (h := s.heap) rv hlen) (each_readsE I rv hd) (by rw [hm]; exact PySem.W.AllAlike.of hal) (by rw [hm]; exact hso.sortable ps)
    (by rw [List.length_zip]; omega) (fun b hb => ?_) fun out ho hE => ?_
  · have := hdep b.2 (by rw [← hm2]; exact List.mem_map_of_mem hb)
    omega
  · obtain ⟨ep, he'⟩ := PyProof.Rows.sortedAll_at s.heap its (List.toArray out)
    have hp := List.mergeSort_perm (xs.zip ps) (PySem.W.dataLe false fun b : V × α => e b.2)
    have e2 : ((xs.zip ps).mergeSort (PySem.W.dataLe false fun b : V × α => e b.2)).map (·.2) = esort e ps := by
      have := PySem.W.sort_maps (r := PySem.W.dataLe false (fun b : V × α => e b.2)) (s := leE e) (Prod.snd : V × α → α) (l := xs.zip ps) (fun a _ b _ => rfl)
      rw [hm2] at this
      exact this
    have hP : (((xs.zip ps).mergeSort (PySem.W.dataLe false fun b : V × α => e b.2)).map (·.1)).Perm xs := by
      have := hp.map (·.1)
      rw [hm1] at this
      exact this
    have hlenY : (((xs.zip ps).mergeSort (PySem.W.dataLe false fun b : V × α => e b.2)).map (·.1)).length ≤ sizeLine := by rw [hP.length_eq]; exact hz
    exact ⟨.ref _, upd H (s.heap.objs.size + 1) (.lst _), I.laid (t' := s.toks) (fun _ _ => PyProof.Rows.sortedAll_old) (Nat.le_succ _) ⟨hlenY, out, ep, vals_of_eachE hE, by simpa using he'⟩, rfl, q _ _ hp e2 (I.hok.fresh (Nat.le_succ _))⟩
/-- sorted of texts -/
theorem srt_strs_out {xs : List Str} {zs : List (V × Str)} (h : zs.Perm ((xs.map V.str).zip xs)) (h' : zs.map (·.2) = esort PyData.str xs) : zs.map (·.1) = (ssort xs).map V.str := by
  have h1 : ∀ z ∈ zs, z.1 = V.str z.2 := fun z hz => by
    have := h.mem_iff.mp hz
    obtain ⟨i, hi⟩ := List.mem_iff_getElem?.mp this
    rw [List.getElem?_zip_eq_some, List.getElem?_map] at hi
    obtain ⟨a, b⟩ := hi
    rw [b] at a
    exact (Option.some.inj a).symm
  have h2 : esort PyData.str xs = ssort xs := by
    have := dsort_strs xs
    unfold dsort at this
    unfold esort
    have h3 := PySem.W.sort_maps (r := leE PyData.str) (s := PySem.W.dataLe false id) PyData.str (l := xs) fun a _ b _ => rfl
    rw [← h3] at this
    exact (List.map_inj_right (fun x y q => PyData.str.inj q)).mp this
  rw [← h2, ← h', List.map_map]
  exact List.map_congr_left h1
/-- cells sorted by what they hold -/
theorem srt_refs_out {α : Type} {e : α → PyData} {F : Addr → α → Prop} {ts : List Addr} {ps : List α} {zs : List (V × α)} (hF : Paired F ts ps) (h : zs.Perm ((ts.map V.ref).zip ps)) (h' : zs.map (·.2) = esort e ps) : ∃ ts', zs.map (·.1) = ts'.map V.ref ∧ Paired F ts' (esort e ps) ∧ ∀ t ∈ ts', t ∈ ts := by
  have h1 : ∀ z ∈ zs, ∃ t, z.1 = V.ref t ∧ F t z.2 ∧ t ∈ ts := fun z hz => by
    have := h.mem_iff.mp hz
    obtain ⟨i, hi⟩ := List.mem_iff_getElem?.mp this
    rw [List.getElem?_zip_eq_some, List.getElem?_map] at hi
    obtain ⟨a, b⟩ := hi
    cases c : ts[i]? with
    | none => rw [c] at a; cases a
    | some t =>
      rw [c] at a
      exact ⟨t, (Option.some.inj a).symm, paired_ix hF c b, List.mem_of_getElem? c⟩
  rw [← h']
  clear h h'
  induction zs with
  | nil => exact ⟨[], rfl, .nil, fun t ht => by cases ht⟩
  | cons z r ih =>
    obtain ⟨t, h2, h3, h4⟩ := h1 z List.mem_cons_self
    obtain ⟨ts', g1, g2, g3⟩ := ih fun x hx => h1 x (List.mem_cons_of_mem _ hx)
    refine ⟨t :: ts', by rw [List.map_cons, List.map_cons, h2, g1], .cons h3 g2, fun x hx => ?_⟩
    rcases List.mem_cons.mp hx with rfl | hx
    · exact h4
    · exact g3 x hx
end SG
/-! steps, in plain words -/
namespace SG
open PySem PySem.Spec PyProof.Rows L2
abbrev Step := Str × List Str
theorem alk_Row : Alk eRow := alk_2 alk_str (alk_L alk_str)
theorem srt_Row : Srt eRow := srt_2 _ _
def each1 (ps : List Step) : List Step := uniq (esort eRow ps)
def rowPuts (rs : List Rule) : List Str → List Step
  | [] => []
  | n :: t => (rulesOf rs n).map fun p => (p.1, p.2 ++ t)
def rowSteps (rs : List Rule) (row : List Str) : List Step := each1 (rowPuts rs row)
/-- what bag[i] may do, the rest beside it -/
def bagAt (rs : List Rule) (bag : List Str) (i : Nat) : List Step := match bag[i]? with
  | none => []
  | some n => (rulesOf rs n).map fun p => (p.1, ssort (p.2 ++ (bag.take i ++ bag.drop (i + 1))))
def bagPuts (rs : List Rule) (bag : List Str) : List Step := (List.range bag.length).flatMap (bagAt rs bag)
def bagSteps (rs : List Rule) (bag : List Str) : List Step := each1 (bagPuts rs bag)
theorem each1_len (ps : List Step) : (each1 ps).length ≤ ps.length := by
  have h := (uniq_sub (esort eRow ps)).length_le
  rw [(esort_perm eRow ps).length_eq] at h
  exact h
theorem flat_range_snoc {α : Type} (f : Nat → List α) (n : Nat) : (List.range (n + 1)).flatMap f = (List.range n).flatMap f ++ f n := by
  rw [List.range_succ, List.flatMap_append]
  simp
theorem paired_zip {F : Addr → Step → Prop} : ∀ {ts : List Addr} {ps : List Step}, Paired F ts ps → Paired (fun t p => (t, p) ∈ ts.zip ps) ts ps
  | _, _, .nil => .nil
  | t :: ts, p :: ps, .cons _ k => .cons List.mem_cons_self (Paired.mapP (paired_zip k) fun _ _ h => List.mem_cons_of_mem _ h)
theorem paired_of_zip {F : Addr → Step → Prop} : ∀ {ts : List Addr} {ps : List Step}, Paired F ts ps → ∀ {t p}, (t, p) ∈ ts.zip ps → F t p
  | _, _, .nil, _, _, h => by cases h
  | a :: ts, b :: ps, .cons h1 k, t, p, h => by
    rw [List.zip_cons_cons] at h
    rcases List.mem_cons.mp h with h | h
    · cases h; exact h1
    · exact paired_of_zip k h
theorem paired_back {α β : Type} {F : α → β → Prop} : ∀ {xs : List α} {ys : List β}, Paired F xs ys → xs ≠ [] → ∃ as a bs b, xs = as ++ [a] ∧ ys = bs ++ [b] ∧ F a b
  | _, _, .nil, h => absurd rfl h
  | x :: xs, y :: ys, .cons h1 k, _ => by
    by_cases c : xs = []
    · subst c
      cases k
      exact ⟨[], x, [], y, rfl, rfl, h1⟩
    · obtain ⟨as, a, bs, b, e1, e2, e3⟩ := paired_back k c
      exact ⟨x :: as, a, y :: bs, b, by rw [e1]; rfl, by rw [e2]; rfl, e3⟩
theorem cut_neg : ((-1 : Int)) = -1 := rfl

theorem each1_nd (ps : List Step) : (each1 ps).Nodup := uniq_nd enc_Row alk_Row _ (esort_pair eRow ps)
theorem each1_mem (ps : List Step) (x : Step) : x ∈ each1 ps ↔ x ∈ ps := by
  unfold each1
  rw [uniq_mem, (esort_perm eRow ps).mem_iff]
theorem each1_of {xs L : List Step} (nd : L.Nodup) (m : ∀ x, x ∈ L ↔ x ∈ xs) : esort eRow L = each1 xs := (uniq_esort enc_Row alk_Row nd fun x => (m x).symm).symm
theorem each1_ext {xs ys : List Step} (h : ∀ x, x ∈ xs ↔ x ∈ ys) : each1 xs = each1 ys := by
  rw [← each1_of (each1_nd ys) fun x => (each1_mem ys x).trans (h x).symm]
  exact each1_of (each1_nd ys) (each1_mem ys)
theorem rowPuts_snoc (rs : List Rule) (r : Rule) (n : Str) (t : List Str) : rowPuts (rs ++ [r]) (n :: t) = if r.1 = n then rowPuts rs (n :: t) ++ [(r.2.1, r.2.2 ++ t)] else rowPuts rs (n :: t) := by
  show (rulesOf (rs ++ [r]) n).map _ = if r.1 = n then (rulesOf rs n).map _ ++ _ else (rulesOf rs n).map _
  rw [rulesOf_snoc]
  by_cases c : r.1 = n
  · rw [if_pos c, if_pos c, List.map_append]; rfl
  · rw [if_neg c, if_neg c]
theorem bagAt_snoc (rs : List Rule) (r : Rule) {bag : List Str} {k : Nat} {n : Str} (h : bag[k]? = some n) : bagAt (rs ++ [r]) bag k = if r.1 = n then bagAt rs bag k ++ [(r.2.1, ssort (r.2.2 ++ (bag.take k ++ bag.drop (k + 1))))] else bagAt rs bag k := by
  unfold bagAt
  rw [h]
  simp only
  rw [rulesOf_snoc]
  by_cases c : r.1 = n
  · rw [if_pos c, if_pos c, List.map_append]; rfl
  · rw [if_neg c, if_neg c]
theorem rest_perm {bag : List Str} {i : Nat} {n : Str} (h : bag[i]? = some n) : (bag.take i ++ bag.drop (i + 1)).Perm (bag.erase n) := by
  have h1 : (n :: (bag.take i ++ bag.drop (i + 1))).Perm bag := by
    obtain ⟨hl, hx⟩ := List.getElem?_eq_some_iff.mp h
    have e : bag = bag.take i ++ n :: bag.drop (i + 1) := by
      conv => lhs; rw [← List.take_append_drop i bag, List.drop_eq_getElem_cons hl, hx]
    conv => rhs; rw [e]
    exact List.perm_middle.symm
  exact (h1.trans (List.perm_cons_erase (List.mem_of_getElem? h))).cons_inv
theorem mem_bagPuts {rs : List Rule} {bag : List Str} {x : Step} : x ∈ bagPuts rs bag ↔ ∃ n ∈ bag, ∃ p ∈ rulesOf rs n, x = (p.1, ssort (p.2 ++ bag.erase n)) := by
  unfold bagPuts
  rw [List.mem_flatMap]
  constructor
  · rintro ⟨i, hi, hx⟩
    rw [List.mem_range] at hi
    have hn : bag[i]? = some bag[i] := List.getElem?_eq_getElem hi
    unfold bagAt at hx
    rw [hn] at hx
    obtain ⟨p, hp, rfl⟩ := List.mem_map.mp hx
    exact ⟨bag[i], List.getElem_mem _, p, hp, by rw [ssort_eq ((List.Perm.refl p.2).append (rest_perm hn))]⟩
  · rintro ⟨n, hn, p, hp, rfl⟩
    obtain ⟨i, hi⟩ := List.mem_iff_getElem?.mp hn
    refine ⟨i, List.mem_range.mpr (List.getElem?_eq_some_iff.mp hi).1, ?_⟩
    unfold bagAt
    rw [hi]
    exact List.mem_map.mpr ⟨p, hp, by rw [ssort_eq ((List.Perm.refl p.2).append (rest_perm hi))]⟩
theorem bagSteps_perm (rs : List Rule) {b b' : List Str} (h : b.Perm b') : bagSteps rs b = bagSteps rs b' := each1_ext fun x => by
  rw [mem_bagPuts, mem_bagPuts]
  constructor
  · rintro ⟨n, hn, p, hp, rfl⟩
    exact ⟨n, h.mem_iff.mp hn, p, hp, by rw [ssort_eq ((List.Perm.refl p.2).append (h.erase n))]⟩
  · rintro ⟨n, hn, p, hp, rfl⟩
    exact ⟨n, h.mem_iff.mpr hn, p, hp, by rw [ssort_eq ((List.Perm.refl p.2).append (h.erase n))]⟩

theorem itePos {b : Bool} {A B : Prop} (hb : b = true) (h : A) : if b = true then A else B := by rw [if_pos hb]; exact h
theorem rowPuts_len {rs : List Rule} (h : rs.length ≤ 100) (row : List Str) : (rowPuts rs row).length ≤ 100 := by
  cases row with
  | nil => exact Nat.zero_le _
  | cons n t =>
    show ((rulesOf rs n).map _).length ≤ 100
    rw [List.length_map]
    exact Nat.le_trans (by unfold rulesOf; rw [List.length_map]; exact List.length_filter_le _ _) h
theorem rulesOf_le (rs : List Rule) (n : Str) : (rulesOf rs n).length ≤ rs.length := by
  unfold rulesOf
  rw [List.length_map]
  exact List.length_filter_le _ _
theorem bagAt_len {rs : List Rule} (h : rs.length ≤ 100) (bag : List Str) (i : Nat) : (bagAt rs bag i).length ≤ 100 := by
  unfold bagAt
  cases bag[i]? with
  | none => exact Nat.zero_le _
  | some n => simp only [List.length_map]; exact Nat.le_trans (rulesOf_le rs n) h
theorem flat_len {α : Type} {f : Nat → List α} {k : Nat} (h : ∀ i, (f i).length ≤ k) : ∀ n, ((List.range n).flatMap f).length ≤ k * n
  | 0 => Nat.zero_le _
  | n + 1 => by
    have := flat_len h n
    have := h n
    rw [flat_range_snoc, List.length_append, Nat.mul_succ]
    omega
theorem bagPuts_len {rs : List Rule} (h : rs.length ≤ 100) (bag : List Str) : (bagPuts rs bag).length ≤ 100 * bag.length := flat_len (bagAt_len h bag) _
theorem rowPuts_short {rs : List Rule} (h : ∀ r ∈ rs, r.2.2.length ≤ 1000) {row : List Str} (hr : row.length ≤ 1000) : ∀ p ∈ rowPuts rs row, p.2.length ≤ 2000 := fun p hp => by
  cases row with
  | nil => cases hp
  | cons n t =>
    obtain ⟨q, hq, rfl⟩ := List.mem_map.mp (show p ∈ (rulesOf rs n).map _ from hp)
    have := h _ (mem_rulesOf.mp hq)
    simp at hr
    show (q.2 ++ t).length ≤ 2000
    rw [List.length_append]
    simp at this
    omega
theorem bagPuts_short {rs : List Rule} (h : ∀ r ∈ rs, r.2.2.length ≤ 1000) {bag : List Str} (hr : bag.length ≤ 1000) : ∀ p ∈ bagPuts rs bag, p.2.length ≤ 2000 := fun p hp => by
  obtain ⟨n, hn, q, hq, rfl⟩ := mem_bagPuts.mp hp
  have h1 := h _ (mem_rulesOf.mp hq)
  show (ssort (q.2 ++ bag.erase n)).length ≤ 2000
  rw [(ssort_perm _).length_eq, List.length_append]
  have h2 : (bag.erase n).length ≤ bag.length := List.length_erase_le
  simp at h1
  omega

theorem cut_ints (ds : List Int) (lo hi : Option Int) : ∃ zs : List Int, cutV (ds.map V.int) lo hi = zs.map V.int ∧ zs.length ≤ ds.length ∧ ∀ z ∈ zs, z ∈ ds := by
  unfold cutV
  rw [List.length_map]
  refine ⟨(ds.drop (HT.sIx ds.length 0 lo)).take (HT.sIx ds.length ds.length hi - HT.sIx ds.length 0 lo), by rw [← List.map_drop, ← List.map_take], ?_, fun z hz => List.mem_of_mem_drop (List.mem_of_mem_take hz)⟩
  rw [List.length_take, List.length_drop]
  omega
def nameAt (names : List Str) (x : Int) : Str := names.getD (x % (names.length : Int)).toNat ""
theorem nameAt_at {names : List Str} (h : 0 < names.length) (x : Int) : atI (names.map V.str) (x % (names.length : Int)) = some (.str (nameAt names x)) ∧ nameAt names x ∈ names := by
  have h0 : 0 ≤ x % (names.length : Int) := Int.emod_nonneg _ (by omega)
  have h1 : x % (names.length : Int) < names.length := Int.emod_lt_of_pos _ (by omega)
  have h2 : names[(x % (names.length : Int)).toNat]? = some (nameAt names x) := by
    unfold nameAt
    rw [List.getD_eq_getElem?_getD, List.getElem?_eq_getElem (by omega)]
    rfl
  refine ⟨?_, List.mem_of_getElem? h2⟩
  rw [atI_eq h0 (by rw [List.length_map]; exact h1), List.getElem?_map, h2]
  rfl
/-- rows of a grammar's rules are short -/
def ShortR (rs : List Rule) : Prop := rs.length ≤ 100 ∧ ∀ r ∈ rs, r.2.2.length ≤ 1000
theorem ShortR.of {rs : List Rule} (h : ShortR rs) (n : Str) : (rulesOf rs n).length ≤ 100 ∧ ∀ p ∈ rulesOf rs n, p.2.length ≤ 1000 :=
  ⟨Nat.le_trans (rulesOf_le rs n) h.1, fun p hp => h.2 _ (mem_rulesOf.mp hp)⟩
end SG
/-! norms, in plain words: least sizes of derivations; rounds over the rules come to them -/
namespace SG
open PySem PySem.Spec PyProof.Rows L2
abbrev Wt := Str → Option Nat
abbrev Edge := Str × List Str
def addW (w : Wt) : List Str → Option Nat
  | [] => some 0
  | n :: t => match w n, addW w t with
    | some a, some b => some (a + b)
    | _, _ => none
def relax (w : Wt) (e : Edge) : Wt := match addW w e.2 with
  | none => w
  | some s => match w e.1 with
    | none => fun m => if m = e.1 then some (s + 1) else w m
    | some v => if s + 1 < v then (fun m => if m = e.1 then some (s + 1) else w m) else w
def leW (w w' : Wt) : Prop := ∀ n v, w' n = some v → ∃ u, u ≤ v ∧ w n = some u
theorem leW.refl (w : Wt) : leW w w := fun _ v h => ⟨v, Nat.le_refl _, h⟩
theorem leW.trans {a b c : Wt} (h : leW a b) (h' : leW b c) : leW a c := fun n v e => by
  obtain ⟨u, hu, e1⟩ := h' n v e
  obtain ⟨x, hx, e2⟩ := h n u e1
  exact ⟨x, by omega, e2⟩
theorem relax_le (w : Wt) (e : Edge) : leW (relax w e) w := fun n v h => by
  unfold relax
  cases h1 : addW w e.2 with
  | none => exact ⟨v, Nat.le_refl _, h⟩
  | some s =>
    simp only
    cases h2 : w e.1 with
    | none =>
      simp only
      by_cases c : n = e.1
      · rw [c, h2] at h; cases h
      · rw [if_neg c]; exact ⟨v, Nat.le_refl _, h⟩
    | some x =>
      simp only
      by_cases c2 : s + 1 < x
      · rw [if_pos c2]
        by_cases c : n = e.1
        · rw [if_pos c]
          rw [c, h2] at h
          have := Option.some.inj h
          exact ⟨s + 1, by omega, rfl⟩
        · rw [if_neg c]; exact ⟨v, Nat.le_refl _, h⟩
      · rw [if_neg c2]; exact ⟨v, Nat.le_refl _, h⟩
theorem relax_hit {w : Wt} {e : Edge} {s : Nat} (h1 : addW w e.2 = some s) : ∃ u, u ≤ s + 1 ∧ relax w e e.1 = some u := by
  unfold relax
  rw [h1]
  simp only
  cases h2 : w e.1 with
  | none => exact ⟨s + 1, Nat.le_refl _, by simp⟩
  | some x =>
    simp only
    by_cases c2 : s + 1 < x
    · rw [if_pos c2]; exact ⟨s + 1, Nat.le_refl _, by simp⟩
    · rw [if_neg c2]; exact ⟨x, by omega, h2⟩
theorem addW_mono {w w' : Wt} (h : leW w w') : ∀ {row : List Str} {s : Nat}, addW w' row = some s → ∃ u, u ≤ s ∧ addW w row = some u
  | [], s, e => ⟨0, Nat.zero_le _, rfl⟩
  | n :: t, s, e => by
    rw [addW] at e
    cases h1 : w' n with
    | none => rw [h1] at e; cases e
    | some a =>
      cases h2 : addW w' t with
      | none => rw [h1, h2] at e; cases e
      | some b =>
        rw [h1, h2] at e
        have e := Option.some.inj e
        obtain ⟨x, hx, e1⟩ := h n a h1
        obtain ⟨y, hy, e2⟩ := addW_mono h h2
        exact ⟨x + y, by omega, by rw [addW, e1, e2]⟩
theorem fold_le : ∀ (E : List Edge) (w : Wt), leW (E.foldl relax w) w
  | [], w => leW.refl w
  | e :: E, w => (fold_le E (relax w e)).trans (relax_le w e)
theorem fold_hit : ∀ {E : List Edge} {w : Wt} {e : Edge} {s : Nat}, e ∈ E → addW w e.2 = some s → ∃ u, u ≤ s + 1 ∧ (E.foldl relax w) e.1 = some u
  | [], _, _, _, h, _ => by cases h
  | x :: E, w, e, s, h, h1 => by
    rcases List.mem_cons.mp h with rfl | h
    · obtain ⟨u, hu, e1⟩ := relax_hit h1
      obtain ⟨y, hy, e2⟩ := fold_le E (relax w e) _ _ e1
      exact ⟨y, by omega, e2⟩
    · obtain ⟨u, hu, e1⟩ := addW_mono (relax_le w x) h1
      obtain ⟨y, hy, e2⟩ := fold_hit h e1
      exact ⟨y, by omega, e2⟩
/-! ### derivations by their heights and sizes -/
def Dv (E : List Edge) : Nat → Str → Nat → Prop
  | 0, _, _ => False
  | h + 1, n, v => ∃ row, (n, row) ∈ E ∧ ∃ vs : List Nat, vs.length = row.length ∧ (∀ p ∈ row.zip vs, Dv E h p.1 p.2) ∧ v = 1 + vs.sum
def Der (E : List Edge) (n : Str) (v : Nat) : Prop := ∃ h, Dv E h n v
theorem Dv.up {E : List Edge} : ∀ {h : Nat} {n : Str} {v : Nat}, Dv E h n v → Dv E (h + 1) n v
  | 0, _, _, d => d.elim
  | h + 1, n, v, ⟨row, hr, vs, hl, hd, e⟩ => ⟨row, hr, vs, hl, fun p hp => (hd p hp).up, e⟩
theorem Dv.mono {E : List Edge} {h k : Nat} {n : Str} {v : Nat} (d : Dv E h n v) (hk : h ≤ k) : Dv E k n v := by
  induction hk with
  | refl => exact d
  | step _ ih => exact ih.up
theorem Dv.sub {E E' : List Edge} (hE : ∀ e, e ∈ E → e ∈ E') : ∀ {h : Nat} {n : Str} {v : Nat}, Dv E h n v → Dv E' h n v
  | 0, _, _, d => d.elim
  | h + 1, n, v, ⟨row, hr, vs, hl, hd, e⟩ => ⟨row, hE _ hr, vs, hl, fun p hp => (hd p hp).sub hE, e⟩
/-- below: what has a derivation of height h is known, and as small -/
def Low (E : List Edge) (h : Nat) (w : Wt) : Prop := ∀ n v, Dv E h n v → ∃ u, u ≤ v ∧ w n = some u
def Sup (E : List Edge) (w : Wt) : Prop := ∀ n v, w n = some v → Der E n v
theorem addW_low {E : List Edge} {h : Nat} {w : Wt} (l : Low E h w) : ∀ {row : List Str} {vs : List Nat}, vs.length = row.length → (∀ p ∈ row.zip vs, Dv E h p.1 p.2) → ∃ s, s ≤ vs.sum ∧ addW w row = some s
  | [], [], _, _ => ⟨0, Nat.le_refl _, rfl⟩
  | [], _ :: _, e, _ => by simp at e
  | _ :: _, [], e, _ => by simp at e
  | n :: t, v :: vs, e, k => by
    obtain ⟨a, ha, e1⟩ := l n v (k (n, v) List.mem_cons_self)
    obtain ⟨b, hb, e2⟩ := addW_low l (row := t) (vs := vs) (by simpa using e) fun p hp => k p (List.mem_cons_of_mem _ hp)
    exact ⟨a + b, by rw [List.sum_cons]; omega, by rw [addW, e1, e2]⟩
theorem low_step {E : List Edge} {h : Nat} {w : Wt} (l : Low E h w) : Low E (h + 1) (E.foldl relax w) := fun n v ⟨row, hr, vs, hl, hd, e⟩ => by
  obtain ⟨s, hs, e1⟩ := addW_low l hl hd
  obtain ⟨u, hu, e2⟩ := fold_hit hr e1
  exact ⟨u, by omega, e2⟩
theorem addW_sup {E : List Edge} {w : Wt} (l : Sup E w) : ∀ {row : List Str} {s : Nat}, addW w row = some s → ∃ h, ∃ vs : List Nat, vs.length = row.length ∧ (∀ p ∈ row.zip vs, Dv E h p.1 p.2) ∧ s = vs.sum
  | [], s, e => ⟨0, [], rfl, fun p hp => (by cases hp), (Option.some.inj e).symm⟩
  | n :: t, s, e => by
    rw [addW] at e
    cases h1 : w n with
    | none => rw [h1] at e; cases e
    | some a =>
      cases h2 : addW w t with
      | none => rw [h1, h2] at e; cases e
      | some b =>
        rw [h1, h2] at e
        have e := Option.some.inj e
        obtain ⟨h, d⟩ := l n a h1
        obtain ⟨k, vs, hl, hd, es⟩ := addW_sup l h2
        refine ⟨max h k, a :: vs, by simp [hl], fun p hp => ?_, by rw [List.sum_cons]; omega⟩
        rw [List.zip_cons_cons] at hp
        rcases List.mem_cons.mp hp with rfl | hp
        · exact d.mono (Nat.le_max_left _ _)
        · exact (hd p hp).mono (Nat.le_max_right _ _)
theorem relax_sup {E : List Edge} {w : Wt} {e : Edge} (l : Sup E w) (he : e ∈ E) : Sup E (relax w e) := fun n v h => by
  unfold relax at h
  cases h1 : addW w e.2 with
  | none => rw [h1] at h; exact l n v h
  | some s =>
    have new : Der E e.1 (s + 1) := by
      obtain ⟨k, vs, hl, hd, es⟩ := addW_sup l h1
      exact ⟨k + 1, e.2, he, vs, hl, hd, by omega⟩
    rw [h1] at h
    simp only at h
    cases h2 : w e.1 with
    | none =>
      rw [h2] at h
      simp only at h
      by_cases c : n = e.1
      · rw [if_pos c] at h
        rw [c, ← Option.some.inj h]
        exact new
      · rw [if_neg c] at h; exact l n v h
    | some x =>
      rw [h2] at h
      simp only at h
      by_cases c2 : s + 1 < x
      · rw [if_pos c2] at h
        by_cases c : n = e.1
        · rw [if_pos c] at h
          rw [c, ← Option.some.inj h]
          exact new
        · rw [if_neg c] at h; exact l n v h
      · rw [if_neg c2] at h; exact l n v h
theorem fold_sup {E : List Edge} : ∀ {F : List Edge} {w : Wt}, Sup E w → (∀ e ∈ F, e ∈ E) → Sup E (F.foldl relax w)
  | [], _, l, _ => l
  | f :: F, w, l, h => fold_sup (F := F) (relax_sup l (h f List.mem_cons_self)) fun e he => h e (List.mem_cons_of_mem _ he)
/-! ### the least -/
theorem least {p : Nat → Prop} (h : ∃ n, p n) : ∃ n, p n ∧ ∀ m, p m → n ≤ m := by
  obtain ⟨n, hn⟩ := h
  induction n using Nat.strongRecOn with
  | ind n ih =>
    by_cases c : ∃ m, m < n ∧ p m
    · obtain ⟨m, hm, pm⟩ := c
      exact ih m hm pm
    · exact ⟨n, hn, fun m pm => Nat.le_of_not_lt fun l => c ⟨m, l, pm⟩⟩
open Classical in
noncomputable def muW (E : List Edge) : Wt := fun n => if h : ∃ v, Der E n v then some (Classical.choose (least h)) else none
theorem muW_some {E : List Edge} {n : Str} {v : Nat} (h : muW E n = some v) : Der E n v ∧ ∀ u, Der E n u → v ≤ u := by
  unfold muW at h
  split at h
  · rename_i hd
    have := Classical.choose_spec (least hd)
    rw [Option.some.inj h] at this
    exact this
  · cases h
theorem muW_of {E : List Edge} {n : Str} {u : Nat} (h : Der E n u) : ∃ v, muW E n = some v ∧ v ≤ u := by
  unfold muW
  rw [dif_pos ⟨u, h⟩]
  exact ⟨_, rfl, (Classical.choose_spec (least ⟨u, h⟩)).2 u h⟩
theorem muW_none {E : List Edge} {n : Str} (h : muW E n = none) : ∀ v, ¬ Der E n v := fun v d => by
  obtain ⟨u, e, _⟩ := muW_of d
  rw [h] at e
  cases e
theorem filter_lt {α : Type} {p q : α → Bool} : ∀ {xs : List α} {a : α}, (∀ x ∈ xs, p x = true → q x = true) → a ∈ xs → q a = true → p a = false → (xs.filter p).length < (xs.filter q).length
  | [], _, _, h, _, _ => by cases h
  | x :: xs, a, h, ha, hq, hp => by
    have hle : ∀ ys : List α, (∀ x ∈ ys, p x = true → q x = true) → (ys.filter p).length ≤ (ys.filter q).length := fun ys => by
      induction ys with
      | nil => intro _; exact Nat.le_refl _
      | cons y t ih =>
        intro k
        have := ih fun x hx => k x (List.mem_cons_of_mem _ hx)
        rw [List.filter_cons, List.filter_cons]
        by_cases c : p y = true
        · rw [if_pos c, if_pos (k y List.mem_cons_self c)]; exact Nat.succ_le_succ this
        · rw [if_neg c]
          split
          · exact Nat.le_succ_of_le this
          · exact this
    rcases List.mem_cons.mp ha with rfl | ha
    · rw [List.filter_cons, List.filter_cons, if_pos hq, if_neg (by rw [hp]; exact Bool.false_ne_true)]
      exact Nat.lt_succ_of_le (hle xs fun x hx => h x (List.mem_cons_of_mem _ hx))
    · have := filter_lt (xs := xs) (fun x hx => h x (List.mem_cons_of_mem _ hx)) ha hq hp
      rw [List.filter_cons, List.filter_cons]
      by_cases c : p x = true
      · rw [if_pos c, if_pos (h x List.mem_cons_self c)]; exact Nat.succ_lt_succ this
      · rw [if_neg c]
        split
        · exact Nat.lt_succ_of_lt this
        · exact this
/-- how many names weigh less than k -/
noncomputable def cntW (E : List Edge) (names : List Str) (k : Nat) : Nat := (names.filter fun m => match muW E m with
  | some v => decide (v < k)
  | none => false).length
theorem mem_zip_sum {row : List Str} {vs : List Nat} {p : Str × Nat} (h : p ∈ row.zip vs) : p.2 ≤ vs.sum := by
  have : p.2 ∈ vs := (List.of_mem_zip h).2
  clear h
  induction vs with
  | nil => cases this
  | cons x t ih =>
    rw [List.sum_cons]
    rcases List.mem_cons.mp this with h | h
    · omega
    · have := ih h; omega
theorem height {E : List Edge} {names : List Str} (hE : ∀ e ∈ E, e.1 ∈ names) : ∀ (k : Nat) (n : Str), muW E n = some k → Dv E (cntW E names k + 1) n k := fun k => by
  induction k using Nat.strongRecOn with
  | ind k ih =>
    intro n hn
    obtain ⟨⟨h, d⟩, hmin⟩ := muW_some hn
    cases h with
    | zero => exact d.elim
    | succ h =>
      obtain ⟨row, hr, vs, hl, hd, e⟩ := d
      -- the least of each
      have hus : ∀ (row : List Str) (vs : List Nat), vs.length = row.length → (∀ p ∈ row.zip vs, Dv E h p.1 p.2) → ∃ us : List Nat, us.length = row.length ∧ us.sum ≤ vs.sum ∧ ∀ p ∈ row.zip us, muW E p.1 = some p.2 := fun row => by
        induction row with
        | nil => intro vs hl hd; exact ⟨[], rfl, Nat.zero_le _, fun p hp => by cases hp⟩
        | cons x t ih2 =>
          intro vs hl hd
          cases vs with
          | nil => simp at hl
          | cons v vs =>
            obtain ⟨us, a1, a2, a3⟩ := ih2 vs (by simpa using hl) fun p hp => hd p (List.mem_cons_of_mem _ hp)
            obtain ⟨u, b1, b2⟩ := muW_of ⟨h, hd (x, v) List.mem_cons_self⟩
            refine ⟨u :: us, by simp [a1], by rw [List.sum_cons, List.sum_cons]; simp only at b2; omega, fun p hp => ?_⟩
            rw [List.zip_cons_cons] at hp
            rcases List.mem_cons.mp hp with rfl | hp
            · exact b1
            · exact a3 p hp
      obtain ⟨us, a1, a2, a3⟩ := hus row vs hl hd
      have hder : Der E n (1 + us.sum) := by
        have : ∃ H, ∀ p ∈ row.zip us, Dv E H p.1 p.2 := by
          have : ∀ l : List (Str × Nat), (∀ p ∈ l, muW E p.1 = some p.2) → ∃ H, ∀ p ∈ l, Dv E H p.1 p.2 := fun l => by
            induction l with
            | nil => intro _; exact ⟨0, fun p hp => by cases hp⟩
            | cons y t ih2 =>
              intro k
              obtain ⟨H1, d1⟩ := ih2 fun p hp => k p (List.mem_cons_of_mem _ hp)
              obtain ⟨⟨H2, d2⟩, _⟩ := muW_some (k y List.mem_cons_self)
              refine ⟨max H1 H2, fun p hp => ?_⟩
              rcases List.mem_cons.mp hp with rfl | hp
              · exact d2.mono (Nat.le_max_right _ _)
              · exact (d1 p hp).mono (Nat.le_max_left _ _)
          exact this _ a3
        obtain ⟨H, hH⟩ := this
        exact ⟨H + 1, row, hr, us, a1, hH, rfl⟩
      have hk := hmin _ hder
      refine ⟨row, hr, us, a1, fun p hp => ?_, by omega⟩
      have hp2 := mem_zip_sum hp
      have hlt : p.2 < k := by omega
      have hmu := a3 p hp
      have hpn : p.1 ∈ names := by
        obtain ⟨⟨H, d⟩, _⟩ := muW_some hmu
        cases H with
        | zero => exact d.elim
        | succ H =>
          obtain ⟨r, hr, _⟩ := d
          exact hE _ hr
      refine (ih p.2 hlt p.1 hmu).mono ?_
      unfold cntW
      refine filter_lt (a := p.1) (fun x _ h1 => ?_) hpn ?_ ?_
      · cases hx : muW E x with
        | none => rw [hx] at h1; cases h1
        | some v => rw [hx] at h1; simp only [decide_eq_true_eq] at h1 ⊢; omega
      · rw [hmu]; simp only [decide_eq_true_eq]; exact hlt
      · rw [hmu]; simp
theorem height_le {E : List Edge} {names : List Str} (hE : ∀ e ∈ E, e.1 ∈ names) {n : Str} {k : Nat} (h : muW E n = some k) : Dv E names.length n k := by
  refine (height hE k n h).mono ?_
  have hn : n ∈ names := by
    obtain ⟨⟨H, d⟩, _⟩ := muW_some h
    cases H with
    | zero => exact d.elim
    | succ H =>
      obtain ⟨r, hr, _⟩ := d
      exact hE _ hr
  have := filter_lt (p := fun m => match muW E m with
    | some v => decide (v < k)
    | none => false) (q := fun _ => true) (xs := names) (a := n) (fun _ _ _ => rfl) hn rfl (by rw [h]; simp)
  have e : names.filter (fun _ => true) = names := List.filter_eq_self.mpr fun _ _ => rfl
  rw [e] at this
  exact this
/-- what is borne out and as small as all derivations of that height is the least -/
theorem muW_unique {E : List Edge} {names : List Str} (hE : ∀ e ∈ E, e.1 ∈ names) {w : Wt} (s : Sup E w) {h : Nat} (l : Low E h w) (hh : names.length ≤ h) : w = muW E := funext fun n => by
  cases e : muW E n with
  | none =>
    cases e2 : w n with
    | none => rfl
    | some v => exact absurd (s n v e2) (muW_none e v)
  | some k =>
    obtain ⟨u, hu, e2⟩ := l n k ((height_le hE e).mono hh)
    have := (muW_some e).2 u (s n u e2)
    rw [e2, show u = k by omega]
theorem muW_congr {E E' : List Edge} (h : ∀ e, e ∈ E ↔ e ∈ E') : muW E = muW E' := funext fun n => by
  have hd : ∀ v, Der E n v ↔ Der E' n v := fun v => ⟨fun ⟨k, d⟩ => ⟨k, d.sub fun e he => (h e).mp he⟩, fun ⟨k, d⟩ => ⟨k, d.sub fun e he => (h e).mpr he⟩⟩
  cases e : muW E n with
  | none =>
    cases e2 : muW E' n with
    | none => rfl
    | some v => exact absurd ((hd v).mpr (muW_some e2).1) (muW_none e v)
  | some k =>
    obtain ⟨v, e2, hv⟩ := muW_of ((hd k).mp (muW_some e).1)
    have := (muW_some e).2 v ((hd v).mpr (muW_some e2).1)
    rw [e2, show v = k by omega]
/-- rounds -/
def rounds (E : List Edge) : Nat → Wt
  | 0 => fun _ => none
  | t + 1 => E.foldl relax (rounds E t)
theorem rounds_sup (E : List Edge) : ∀ t, Sup E (rounds E t)
  | 0 => fun n v h => by cases h
  | t + 1 => fold_sup (rounds_sup E t) fun _ h => h
theorem rounds_low (E : List Edge) : ∀ t, Low E t (rounds E t)
  | 0 => fun n v h => h.elim
  | t + 1 => low_step (rounds_low E t)
theorem rounds_mu {E : List Edge} {names : List Str} (hE : ∀ e ∈ E, e.1 ∈ names) {t : Nat} (h : names.length ≤ t) : rounds E t = muW E := muW_unique hE (rounds_sup E t) (rounds_low E t) h
/-- at the least nothing changes -/
theorem muW_fix {E : List Edge} {e : Edge} (he : e ∈ E) {s : Nat} (h : addW (muW E) e.2 = some s) : ∃ v, muW E e.1 = some v ∧ v ≤ s + 1 := by
  have sup : Sup E (muW E) := fun n v h => (muW_some h).1
  obtain ⟨k, vs, hl, hd, es⟩ := addW_sup sup h
  obtain ⟨v, e1, hv⟩ := muW_of (E := E) (n := e.1) ⟨k + 1, e.2, he, vs, hl, hd, rfl⟩
  exact ⟨v, e1, by omega⟩
theorem relax_mu {E : List Edge} {e : Edge} (he : e ∈ E) : relax (muW E) e = muW E := by
  unfold relax
  cases h : addW (muW E) e.2 with
  | none => rfl
  | some s =>
    obtain ⟨v, e1, hv⟩ := muW_fix he h
    simp only
    rw [e1]
    simp only
    rw [if_neg (by omega)]

theorem rounds_stop {E : List Edge} {names : List Str} (hE : ∀ e ∈ E, e.1 ∈ names) {t : Nat} (h : rounds E (t + 1) = rounds E t) : rounds E t = muW E := by
  have : ∀ k, rounds E (t + k) = rounds E t := fun k => by
    induction k with
    | zero => rfl
    | succ k ih =>
      show (E.foldl relax (rounds E (t + k))) = _
      rw [ih]
      exact h
  rw [← this names.length]
  exact rounds_mu hE (Nat.le_add_left _ _)
/-! ### weights in a dict -/
def optV : Option Nat → V
  | none => .non
  | some k => .int (k : Int)
theorem optV_inj {a b : Option Nat} (h : optV a = optV b) : a = b := by
  cases a <;> cases b
  · rfl
  · cases h
  · cases h
  · have := V.int.inj h
    rw [show _ = _ from Int.ofNat.inj this]
def kvsW (names : List Str) (w : Wt) : List (Key × V) := names.map fun n => ((Sum.inr n : Key), optV (w n))
theorem valV_step (k : Key) (v : V) (r : List (Key × V)) (q : Key) : valV ((k, v) :: r) q = if k = q then some v else valV r q := by
  unfold valV
  rw [List.find?_cons]
  by_cases c : k = q
  · simp [c]
  · simp [c]
theorem kvsW_val {names : List Str} {w : Wt} {n : Str} (h : n ∈ names) : valV (kvsW names w) (Sum.inr n : Key) = some (optV (w n)) := by
  induction names with
  | nil => cases h
  | cons x t ih =>
    unfold kvsW at *
    rw [List.map_cons, valV_step]
    by_cases c : x = n
    · rw [if_pos (by rw [c]), c]
    · rw [if_neg (fun z => c (Sum.inr.inj z))]
      rcases List.mem_cons.mp h with h | h
      · exact absurd h.symm c
      · exact ih h
theorem kvsW_put {names : List Str} {w : Wt} {n : Str} (h : n ∈ names) (s : Nat) : putK (kvsW names w) (Sum.inr n : Key) (.int ((s : Int) + 1)) = kvsW names (fun m => if m = n then some (s + 1) else w m) := by
  have ha : ((kvsW names w).any fun kv => decide (kv.1 = (Sum.inr n : Key))) = true := by
    rw [List.any_eq_true]
    exact ⟨(Sum.inr n, optV (w n)), List.mem_map.mpr ⟨n, h, rfl⟩, decide_eq_true rfl⟩
  unfold putK
  rw [if_pos ha]
  unfold kvsW
  rw [List.map_map]
  refine List.map_congr_left fun m _ => ?_
  show (if (Sum.inr m : Key) = Sum.inr n then ((Sum.inr m : Key), V.int ((s : Int) + 1)) else ((Sum.inr m : Key), optV (w m))) = _
  by_cases c : m = n
  · rw [if_pos (by rw [c])]; simp only; rw [if_pos c]; rfl
  · rw [if_neg (fun z => c (Sum.inr.inj z))]; simp only; rw [if_neg c]
theorem kvsW_len (names : List Str) (w : Wt) : (kvsW names w).length = names.length := by unfold kvsW; rw [List.length_map]
/-- the edges of the rules, by names and as they stand -/
def edN (rs : List Rule) (n : Str) : List Edge := (rulesOf rs n).map fun p => (n, p.2)
def edP (names : List Str) (rs : List Rule) : List Edge := names.flatMap (edN rs)
def edR (rs : List Rule) : List Edge := rs.map fun r => (r.1, r.2.2)
theorem mem_edN {rs : List Rule} {n : Str} {e : Edge} : e ∈ edN rs n ↔ e.1 = n ∧ ∃ l, (n, l, e.2) ∈ rs := by
  unfold edN
  rw [List.mem_map]
  constructor
  · rintro ⟨p, hp, rfl⟩
    exact ⟨rfl, p.1, mem_rulesOf.mp hp⟩
  · rintro ⟨rfl, l, hl⟩
    exact ⟨(l, e.2), mem_rulesOf.mpr hl, rfl⟩
theorem mem_edP {names : List Str} {rs : List Rule} (h : ∀ r ∈ rs, r.1 ∈ names) {e : Edge} : e ∈ edP names rs ↔ e ∈ edR rs := by
  unfold edP edR
  rw [List.mem_flatMap, List.mem_map]
  constructor
  · rintro ⟨n, hn, he⟩
    obtain ⟨h1, l, hl⟩ := mem_edN.mp he
    exact ⟨_, hl, by rw [← h1]⟩
  · rintro ⟨r, hr, rfl⟩
    exact ⟨r.1, h r hr, mem_edN.mpr ⟨rfl, r.2.1, hr⟩⟩
/-- the norms of a grammar's names -/
noncomputable def normW (rs : List Rule) : Wt := muW (edR rs)
theorem normW_edP {names : List Str} {rs : List Rule} (h : ∀ r ∈ rs, r.1 ∈ names) : muW (edP names rs) = normW rs := muW_congr fun _ => mem_edP h
theorem edP_fst {names : List Str} {rs : List Rule} : ∀ e ∈ edP names rs, e.1 ∈ names := fun e he => by
  obtain ⟨n, hn, h⟩ := List.mem_flatMap.mp he
  rw [(mem_edN.mp h).1]
  exact hn
/-- encoded -/
def oD : Option Nat → PyData
  | none => .none
  | some k => .int (k : Int)
theorem enc_oD : Enc oD := fun a b => by
  cases a with
  | none => cases b with
    | none => simp [oD, PyData.eqv]
    | some y => simp [oD, PyData.eqv]
  | some x => cases b with
    | none => simp [oD, PyData.eqv]
    | some y =>
      show PyData.eqv (.int (x : Int)) (.int (y : Int)) = _
      have h := enc_int (x : Int) (y : Int)
      rw [h]
      by_cases c : x = y
      · simp [c]
      · have : ¬ (x : Int) = (y : Int) := by omega
        simp [c, this]
theorem dep_oD : Dep oD 0 := fun a => by
  cases a <;> exact Nat.zero_le _
theorem dpAll_oD {K : PySem.W.Frag} {H : Hp} : ∀ xs : List (Option Nat), DpAll K H (xs.map optV) (xs.map oD)
  | [] => .nil
  | none :: r => .cons .non (dpAll_oD r)
  | some k :: r => .cons (.int _) (dpAll_oD r)
theorem addW_none {w : Wt} : ∀ {row : List Str}, addW w row = none ↔ none ∈ row.map w
  | [] => by simp [addW]
  | n :: t => by
    rw [addW, List.map_cons, List.mem_cons, ← addW_none (row := t)]
    cases h1 : w n with
    | none => simp
    | some a =>
      cases h2 : addW w t with
      | none => simp
      | some b => simp
theorem addW_some {w : Wt} : ∀ {row : List Str} {s : Nat}, addW w row = some s → ∃ ns : List Int, (row.map w).map optV = ns.map V.int ∧ ns.sum = (s : Int)
  | [], s, e => ⟨[], rfl, by rw [← Option.some.inj e]; rfl⟩
  | n :: t, s, e => by
    rw [addW] at e
    cases h1 : w n with
    | none => rw [h1] at e; cases e
    | some a =>
      cases h2 : addW w t with
      | none => rw [h1, h2] at e; cases e
      | some b =>
        rw [h1, h2] at e
        have e := Option.some.inj e
        obtain ⟨ns, e1, e2⟩ := addW_some h2
        refine ⟨(a : Int) :: ns, by rw [List.map_cons, List.map_cons, h1, e1]; rfl, by rw [List.sum_cons, e2]; omega⟩

/-- names without a norm -/
def endl (names : List Str) (w : Wt) : List Str := names.filter fun n => (w n).isNone
theorem filter_snoc {α : Type} (p : α → Bool) (xs : List α) (x : α) : (xs ++ [x]).filter p = if p x = true then xs.filter p ++ [x] else xs.filter p := by
  rw [List.filter_append, List.filter_cons]
  by_cases c : p x = true
  · rw [if_pos c, if_pos c]; rfl
  · rw [if_neg c, if_neg c, List.filter_nil, List.append_nil]
theorem isNone_dec (o : Option Nat) : decide (optV o = V.non) = o.isNone := by
  cases o with
  | none => simp [optV]
  | some k => simp [optV]
theorem addW_perm {w : Wt} {xs ys : List Str} (h : xs.Perm ys) : addW w xs = addW w ys := by
  induction h with
  | nil => rfl
  | cons x _ ih => rw [addW, addW, ih]
  | swap x y l =>
    rw [addW, addW, addW, addW]
    cases w x <;> cases w y <;> cases addW w l <;> simp
    omega
  | trans _ _ h1 h2 => exact h1.trans h2

/-! ### the law's own weighing: no weight comes near its limit -/
def WAt (kvs : List (Key × V)) (w : Wt) : Prop := ∀ n : Str, valV kvs (Sum.inr n : Key) = (w n).map fun k => V.int (k : Int)
def cntA (names : List Str) (w : Wt) : Nat := (names.filter fun n => (w n).isSome).length
def Bd (names : List Str) (w : Wt) : Prop := ∀ n v, w n = some v → v ≤ 4 ^ cntA names w
theorem addW_le {w : Wt} {B : Nat} (h : ∀ n v, w n = some v → v ≤ B) : ∀ {row : List Str} {s : Nat}, addW w row = some s → s ≤ row.length * B
  | [], s, e => by rw [← Option.some.inj e]; exact Nat.zero_le _
  | n :: t, s, e => by
    rw [addW] at e
    cases h1 : w n with
    | none => rw [h1] at e; cases e
    | some a =>
      cases h2 : addW w t with
      | none => rw [h1, h2] at e; cases e
      | some b =>
        rw [h1, h2] at e
        have e := Option.some.inj e
        have h3 := h n a h1
        have h4 := addW_le h h2
        rw [List.length_cons, Nat.succ_mul]
        omega
theorem cntA_le (names : List Str) (w : Wt) : cntA names w ≤ names.length := List.length_filter_le _ _
theorem bd_sum {names : List Str} {w : Wt} (b : Bd names w) {row : List Str} {s : Nat} (hr : row.length ≤ 3) (h : addW w row = some s) : s ≤ 3 * 4 ^ cntA names w := by
  have := addW_le b h
  exact Nat.le_trans this (Nat.mul_le_mul_right _ hr)
theorem pow_le_big {k : Nat} (h : k ≤ 6) : 4 ^ k ≤ 4096 := Nat.le_trans (Nat.pow_le_pow_right (by decide) h) (by decide)
theorem relax_bd {names : List Str} {w : Wt} (b : Bd names w) {e : Edge} (he : e.1 ∈ names) (hr : e.2.length ≤ 3) : Bd names (relax w e) := by
  unfold relax
  cases h : addW w e.2 with
  | none => exact b
  | some s =>
    have hs := bd_sum b hr h
    simp only
    cases h2 : w e.1 with
    | none =>
      simp only
      have hlt : cntA names w < cntA names (fun m => if m = e.1 then some (s + 1) else w m) := by
        refine filter_lt (a := e.1) (fun x _ hx => ?_) he (by simp) (by rw [h2]; rfl)
        simp only
        split
        · rfl
        · exact hx
      have hpow : 4 ^ (cntA names w + 1) ≤ 4 ^ cntA names (fun m => if m = e.1 then some (s + 1) else w m) := Nat.pow_le_pow_right (by decide) hlt
      have h1 : 1 ≤ 4 ^ cntA names w := Nat.pow_pos (by decide)
      rw [Nat.pow_succ] at hpow
      intro n v hv
      simp only at hv
      split at hv
      · have := Option.some.inj hv
        omega
      · have := b n v hv
        omega
    | some x =>
      simp only
      by_cases c : s + 1 < x
      · rw [if_pos c]
        have hc : cntA names (fun m => if m = e.1 then some (s + 1) else w m) = cntA names w := by
          unfold cntA
          congr 1
          refine List.filter_congr fun m _ => ?_
          simp only
          by_cases cm : m = e.1
          · rw [if_pos cm, cm, h2]; rfl
          · rw [if_neg cm]
        intro n v hv
        rw [hc]
        simp only at hv
        split at hv
        · have := Option.some.inj hv
          have := b _ _ h2
          omega
        · exact b n v hv
      · rw [if_neg c]
        exact b
theorem fold_bd {names : List Str} : ∀ {F : List Edge} {w : Wt}, Bd names w → (∀ e ∈ F, e.1 ∈ names ∧ e.2.length ≤ 3) → Bd names (F.foldl relax w)
  | [], _, b, _ => b
  | f :: F, w, b, h => fold_bd (F := F) (relax_bd b (h f List.mem_cons_self).1 (h f List.mem_cons_self).2) fun e he => h e (List.mem_cons_of_mem _ he)
theorem rounds_bd {names : List Str} {E : List Edge} (h : ∀ e ∈ E, e.1 ∈ names ∧ e.2.length ≤ 3) : ∀ t, Bd names (rounds E t)
  | 0 => fun n v e => by cases e
  | t + 1 => fold_bd (rounds_bd h t) h
theorem edR_take (rs : List Rule) (i : Nat) : edR (rs.take i) = (edR rs).take i := by unfold edR; rw [List.map_take]
/-- names of a row without a weight -/
theorem lacks_nil {w : Wt} {row : List Str} : row.filter (fun x => (w x).isNone) = [] ↔ addW w row ≠ none := by
  rw [List.filter_eq_nil_iff, ne_eq, addW_none, List.mem_map]
  constructor
  · rintro h ⟨x, hx, e⟩
    exact h x hx (by rw [e]; rfl)
  · intro h x hx e
    exact h ⟨x, hx, by simpa using e⟩
theorem WAt.put {kvs : List (Key × V)} {w : Wt} (h : WAt kvs w) (n : Str) (s : Nat) : WAt (putK kvs (Sum.inr n : Key) (.int (s : Int))) (fun m => if m = n then some s else w m) := fun m => by
  rw [valV_put]
  by_cases c : m = n
  · rw [if_pos (by rw [c])]; simp only; rw [if_pos c]; rfl
  · rw [if_neg (fun z => c (Sum.inr.inj z))]; simp only; rw [if_neg c]; exact h m
/-- what the law writes is the round's weight -/
theorem relax_min {w : Wt} {e : Edge} {s : Nat} (h : addW w e.2 = some s) : relax w e = fun m => if m = e.1 then some (match w e.1 with
    | none => s + 1
    | some v => if s + 1 < v then s + 1 else v) else w m := by
  unfold relax
  rw [h]
  simp only
  cases h2 : w e.1 with
  | none => rfl
  | some v =>
    simp only
    by_cases c : s + 1 < v
    · rw [if_pos c, if_pos c]
    · rw [if_neg c, if_neg c]
      funext m
      by_cases cm : m = e.1
      · rw [if_pos cm, cm, h2]
      · rw [if_neg cm]
end SG
/-! sorted(d.keys()), d of texts -/
namespace SG
open PySem PySem.Spec PyProof.Rows L2
section
variable {X : Cx}
def tSortedKeys (ta : TE) : TE := fun σ H Q => ta σ H fun x H1 => ∃ (a : Addr) (kvs : List (Key × V)) (ks : List Str), x = .ref a ∧ H1 a = some (.dK kvs) ∧ kvs.map (·.1) = ks.map Sum.inr ∧ ks.length < 64 ∧
    ∀ ys p, ys.Perm ks → sortedS ys = true → H1 p = none → Q (.ref p) (upd H1 p (.lst (ys.map V.str)))
theorem pe_sortedKeys {a : Expr} {ta : TE} {p apos q pos : Pos} (hg : Gl X "sorted") (hm : X.mg "sorted" = none) (ha : PE X a ta) (hc : X.calm = true := by rfl)
    (hbase : attributeBase a "keys" X.env (eval a X.env) = eval a X.env := by rfl) (hline : (apos.endLine == q.line) = true := by rfl) : PE X (.Call (.Name "sorted" p) [.Call (.Attribute a "keys" apos) [] [] q] [] pos) (tSortedKeys ta) := by
  refine ⟨fun pins s σ H Q I h => ?_⟩
  refine Call_ (ld_blt I hg hm boot_sorted ?_)
  refine PyProof.Rows.callWith_builtin1 (PyProof.Rows.args_cons ?_ rfl) rfl rfl
  refine wpAny_Call_method (T := "dict") (id := "dict.keys") hbase rfl hline F.plainAttrs_dict F.slot_dict_keys F.type_dict_keys (thn (ha.run pins s σ H _ I h) fun u s1 ⟨x, H1, I1, rx, d, kvs, ks, ex, hd, hks, h64, k⟩ => ?_)
  subst ex
  obtain rfl : u = Value.ref d := rx
  obtain ⟨z, lo, vs, rel, dd⟩ := dk_of I1.hok hd
  refine ⟨dd.typeIs, dd.mapOf.noDict, ?_⟩
  have I2 : Inv X pins σ H1 { s1 with heap := s1.heap.push { cls := .type "dict_keys", data := .fields #[.ref d] } } := I1.kept (t' := s1.toks) fun b ob q => Heap.get?_push_of_some _ q
  have hview : (s1.heap.push { cls := .type "dict_keys", data := .fields #[.ref d] }).get? s1.heap.objs.size = some { cls := .type "dict_keys", data := .fields #[.ref d] } := Heap.get?_push_size _ rfl
  show wpAny _ _ (callWith _ (.builtin "dict.keys") [.ref d] [] []) _ X.xe s1
  refine method_meetsIn F.slot_dict_keys F.entry_dict_keys rfl (PySem.evalArgs_none ⟨rfl, dd.typeIs, F.args_dict_keys_1 _, _, PySem.W.kdl_meets_keys (mixKind X.prog X.w) d lo, ⟨vs, dd⟩, ?_⟩)
  refine PyProof.Rows.args_nil ?_
  generalize hs2 : ({ s1 with heap := s1.heap.push { cls := .type "dict_keys", data := .fields #[.ref d] } } : Shared) = s2 at I2 ⊢
  have hview2 : s2.heap.get? s1.heap.objs.size = some { cls := .type "dict_keys", data := .fields #[.ref d] } := by rw [← hs2]; exact hview
  clear rel dd
  obtain ⟨z, lo, vs, rel, dd⟩ := dk_of I2.hok hd
  obtain ⟨ep, hat⟩ := dd.dictAt
  have hkeys : vs.map (·.1) = ks.map Sum.inr := rel.keys.symm.trans hks
  have hl : vs.length = ks.length := by
    have e := congrArg List.length hkeys
    rw [List.length_map, List.length_map] at e
    exact e
  have h16 : vs.length ≤ sizeLine := by rw [hl, sizeLine_eq]; omega
  refine Calls.call_function_entry PyProof.Rows.kind_sorted PyProof.Rows.plain_sorted PyProof.Rows.entry_sorted (PyProof.Rows.args_sorted1 _) ?_
  unfold Builtin.«sorted»
  refine wpAny_bind (m := checkCount "sorted" 1 1 _) (wpAny_pure ?_)
  refine wpAny_bind (PySem.W.kdu_collect (A := X.A.in1) (PySem.W.kdl_keys (knd := mixKind X.prog X.w) (kvs := vs) (ep := ep)) (I2.ok.hd hc) ⟨⟨_, hview2, rfl, rfl⟩, hat⟩ h16 fun h' tk acc hk hacc => ?_)
  have hal : acc.toList.length = ks.length := by rw [Array.length_toList, hacc.1, hl]
  have hS : StrsAre acc.toList ks := strs_at hal fun j v e => by
    obtain ⟨k, x, e1, e2⟩ := hacc.2 j v (by rw [← Array.getElem?_toList]; exact e)
    have e3 : (vs.map (·.1))[j]? = some k := by rw [List.getElem?_map, e1]; all_goals rfl
    rw [hkeys, List.getElem?_map] at e3
    cases e4 : ks[j]? with
    | none => rw [e4] at e3; cases e3
    | some y =>
      rw [e4] at e3
      have e5 : Sum.inr y = k := Option.some.inj e3
      subst e5
      obtain ⟨t, ev⟩ := Value.isStrOf_shape (x := y) (v := v) e2
      exact ⟨y, t, rfl, ev⟩
  have I3 : Inv X pins σ H1 { s2 with heap := h', toks := tk } := I2.kept hk
  refine wpAny_bind (wpAny_newList ?_ (by rw [hal, sizeLine_eq]; omega))
  have hoL : (h'.push (seqObj "list" acc.toList.toArray 0)).get? h'.objs.size = some (seqObj "list" acc.toList.toArray 0) := Heap.get?_push_size _ rfl
  show wpAny _ _ _ _ _ { s2 with heap := h'.push (seqObj "list" acc.toList.toArray 0), toks := tk }
  refine wpAny_bind (wpAny_holding (wpAny_call_entry PyProof.Rows.slot_list_sort ⟨_, hoL, rfl⟩ PyProof.Rows.entry_list_sort
    (list_sort_treeK strKind_oneLt (s := { s2 with heap := h'.push (seqObj "list" acc.toList.toArray 0), toks := tk }) hoL hS.keysOf (fun v₁ v₂ rest e => keyKind_strs (by rw [← e]; exact hS)) (by rw [hal]; exact h64) fun st' hp hs => ⟨_, rfl, ?_⟩)
    (PyProof.Rows.args_list_sort _)))
  obtain ⟨ys, g1, g2, g3⟩ := sorted_out_str hS hp hs
  obtain ⟨e', he'⟩ := PyProof.Rows.sortedHeap_at (vs := acc.toList) (out := (arrOf st').map (·.2)) hoL
  have hlen : (ys.map V.str).length ≤ sizeLine := by
    rw [List.length_map, g2.length_eq]
    exact Nat.le_trans (Nat.le_of_lt h64) (by decide)
  refine wpAny_pure ⟨_, rfl, .ref h'.objs.size, upd H1 h'.objs.size (.lst (ys.map V.str)), I3.laid (t' := tk) (fun b u e => ?_) (Nat.le_refl _)
    (show ObjOk X.prog X.w _ _ _ (.lst (ys.map V.str)) from ⟨hlen, ((arrOf st').map (·.2)).toList, e', vals_of_strs g1, by rw [Array.toArray_toList]; exact he'⟩), rfl, k ys _ g2 g3 (I3.hok.fresh (Nat.le_refl _))⟩
  have hb : b < h'.objs.size := Heap.lt_size e
  rw [PyProof.Rows.sortedHeap_old (Nat.ne_of_lt hb) (by rw [size_push']; exact Nat.lt_succ_of_lt hb)]
  exact Heap.get?_push_of_some _ e
end

theorem risingS_pair : ∀ (r : List Str) (x : Str), risingS x r = true → (x :: r).Pairwise fun a b => decide (a.cps.toList ≤ b.cps.toList) = true
  | [], x, _ => by simp
  | y :: r, x, h => by
    rw [risingS, Bool.and_eq_true] at h
    have h2 := risingS_pair r y h.2
    have hxy : x.cps.toList ≤ y.cps.toList := by
      have h1 := h.1
      rw [PyProof.Rows.ltCps_eq] at h1
      simp only [Bool.not_eq_true', decide_eq_false_iff_not] at h1
      exact List.not_lt.mp h1
    rw [List.pairwise_cons]
    refine ⟨fun z hz => decide_eq_true ?_, h2⟩
    rcases List.mem_cons.mp hz with rfl | hz
    · exact hxy
    · exact List.le_trans hxy (of_decide_eq_true ((List.pairwise_cons.mp h2).1 z hz))
theorem sortedS_ssort {ys ks : List Str} (h : sortedS ys = true) (hp : ys.Perm ks) : ys = ssort ks := by
  have h1 : ys.Pairwise fun a b => decide (a.cps.toList ≤ b.cps.toList) = true := by
    cases ys with
    | nil => exact List.Pairwise.nil
    | cons x r => exact risingS_pair r x h
  exact (hp.trans (ssort_perm ks).symm).eq_of_pairwise (fun _ _ _ _ => sle_anti) h1 (ssort_pair ks)
theorem kvsW_keys (names : List Str) (w : Wt) : (kvsW names w).map (·.1) = names.map Sum.inr := by
  unfold kvsW
  rw [List.map_map]
  rfl

theorem iteNEG {b : Bool} {A B : Prop} (hb : b = false) (h : B) : if b = true then A else B := by rw [if_neg (by rw [hb]; exact Bool.false_ne_true)]; exact h
end SG
/-! the second kind of the laws' draws: a well of numbers -/
namespace SG
open PySem PySem.Spec PyProof.Rows L2
/-- the well at s, drawn from n times at most -/
def WellAt (H : Hp) (s : Addr) (n : Nat) : Prop := ∃ a b c : Int, H s = some (.lst [.int a, .int b, .int c]) ∧ 0 ≤ a ∧ 0 ≤ c ∧ c ≤ (n : Int)
variable {H H' H1 H2 : Hp} {s : Addr} {n m : Nat}
theorem WellAt.mono (h : WellAt H s n) (hm : n ≤ m) : WellAt H s m := by
  obtain ⟨a, b, c, h1, h2, h3, h4⟩ := h
  exact ⟨a, b, c, h1, h2, h3, by omega⟩
theorem WellAt.same (h : WellAt H s n) (e : Same H H') : WellAt H' s n := by
  obtain ⟨a, b, c, h1, r⟩ := h
  exact ⟨a, b, c, e _ _ h1, r⟩
theorem WellAt.some (h : WellAt H s n) : ∃ o, H s = some o := let ⟨_, _, _, h, _⟩ := h; ⟨_, h⟩
theorem WellAt.ne_strs {a : Addr} {ms : List Str} (h : WellAt H s n) (e : H a = Option.some (.lst (ms.map V.str))) : a ≠ s := fun q => by
  obtain ⟨_, _, _, h1, _⟩ := h
  rw [q, h1] at e
  cases ms with
  | nil => cases e
  | cons x r => cases e
theorem WellAt.ne_refs {a : Addr} {ts : List Addr} (h : WellAt H s n) (e : H a = Option.some (.lst (ts.map V.ref))) : a ≠ s := fun q => by
  obtain ⟨_, _, _, h1, _⟩ := h
  rw [q, h1] at e
  cases ts with
  | nil => cases e
  | cons x r => cases e
theorem WellAt.ne_dk {a : Addr} {kvs : List (Key × V)} (h : WellAt H s n) (e : H a = Option.some (.dK kvs)) : a ≠ s := fun q => by
  obtain ⟨_, _, _, h1, _⟩ := h
  rw [q, h1] at e
  cases e
theorem WellAt.ne_tup {a : Addr} {vs : List V} (h : WellAt H s n) (e : H a = Option.some (.tup vs)) : a ≠ s := fun q => by
  obtain ⟨_, _, _, h1, _⟩ := h
  rw [q, h1] at e
  cases e
theorem But.freeW (a : But s H H') (h : WellAt H' s n) {p : Addr} (hp : H' p = none) : H p = none := by
  cases e : H p with
  | none => rfl
  | some o =>
    by_cases n : p = s
    · obtain ⟨o', h⟩ := h.some
      rw [n, h] at hp
      cases hp
    · rw [a p o n e] at hp
      cases hp
theorem WellAt.cell {p : Addr} (h : WellAt H s n) {o : HO} (h0 : WellAt H1 s m) (hp : H1 p = Option.none) : WellAt (upd H p o) s n := by
  obtain ⟨a, b, c, g1, r⟩ := h
  obtain ⟨os, g2⟩ := h0.some
  exact ⟨a, b, c, by rw [upd_ne (ne_of_none g2 hp)]; exact g1, r⟩
def sp_draw : Sp := fun vs H Q _ => ∃ (s : Addr) (k : Int) (n : Nat), vs = [.ref s, .int k] ∧ WellAt H s n ∧ n ≤ 1000000000 ∧ 0 < k ∧ k < 1073741824 ∧ ∀ (j : Int) H', 0 ≤ j → j < k → But s H H' → WellAt H' s (n + 1) → Q (.int j) H'

def sp_cell_at (K : PySem.W.Frag) : Sp := fun vs H Q _ => ∃ (a : Addr) (ns : List Int) (k : Nat), vs = [.ref a, .int k] ∧ SqL K H a (ns.map V.int) ∧ ∀ z : Int, Q (.int z) H
def sp_well : Sp := fun vs H Q _ => ∃ c : Int, vs = [.int c] ∧ ∀ p H', H p = none → Same H H' → WellAt H' p 0 → Q (.ref p) H'
def sp_one : Sp := fun vs H Q _ => ∃ (s a : Addr) (xs : List V) (n : Nat), vs = [.ref s, .ref a] ∧ WellAt H s n ∧ n ≤ 1000000000 ∧ H a = some (.lst xs) ∧ a ≠ s ∧ 0 < xs.length ∧ xs.length ≤ 1000000 ∧ ∀ (v : V) H', v ∈ xs → But s H H' → WellAt H' s (n + 1) → Q v H'
/-- the i-th of the names with a common stem -/
def CalledB (stem : List Nat) (f : Int) (i : Nat) (x : Str) : Prop := x = ⟨(stem ++ [97 + ((f + 5 * (i : Int)) % 12).toNat]).toArray⟩
def NamesB (m : Nat) (xs : List Str) : Prop := xs.length = m ∧ ∃ stem f, stem.length ≤ 5 ∧ Smalls stem ∧ ∀ (i : Nat) x, xs[i]? = some x → CalledB stem f i x
def sp_namesB : Sp := fun vs H Q _ => ∃ (s : Addr) (m n : Nat), vs = [.ref s, .int m] ∧ m ≤ 12 ∧ WellAt H s n ∧ n ≤ 100000000 ∧ ∀ p H' (xs : List Str), H p = none → But s H H' → WellAt H' s (n + 10) → H' p = some (.lst (xs.map V.str)) → NamesB m xs → Q (.ref p) H'
/-- letters of one sign each, unlike -/
def SignB (f : Int) (i : Nat) (x : Str) : Prop := x = ⟨#[97 + ((f + 5 * (i : Int)) % 26).toNat]⟩
def SignsB (m : Nat) (xs : List Str) : Prop := xs.length = m ∧ ∃ f, ∀ (i : Nat) x, xs[i]? = some x → SignB f i x
def sp_signsB : Sp := fun vs H Q _ => ∃ (s : Addr) (m n : Nat), vs = [.ref s, .int m] ∧ m ≤ 26 ∧ WellAt H s n ∧ n ≤ 100000000 ∧ ∀ p H' (xs : List Str), H p = none → But s H H' → WellAt H' s (n + 1) → H' p = some (.lst (xs.map V.str)) → SignsB m xs → Q (.ref p) H'
def sp_mixed : Sp := fun vs H Q _ => ∃ (s a : Addr) (xs : List V) (n : Nat), vs = [.ref s, .ref a] ∧ WellAt H s n ∧ n ≤ 100000000 ∧ H a = some (.lst xs) ∧ a ≠ s ∧ xs.length ≤ 1000 ∧ ∀ p H' (ys : List V), H p = none → But s H H' → WellAt H' s (n + xs.length) → H' p = some (.lst ys) → ys.Perm xs → Q (.ref p) H'
theorem glued_back (y : Str) : ∀ xs : List Str, xs ≠ [] → (Str.join "" (xs ++ [y])).cps.toList = (Str.join "" xs).cps.toList ++ y.cps.toList
  | [], h => absurd rfl h
  | [x], _ => by
    show (x ++ ("" : Str) ++ y).cps.toList = _
    show (x.cps ++ ("" : Str).cps ++ y.cps).toList = x.cps.toList ++ y.cps.toList
    rw [show ("" : Str).cps = #[] from by decide +kernel]
    simp
  | x :: z :: r, _ => by
    have ih := glued_back y (z :: r) (by simp)
    show (x.cps ++ ("" : Str).cps ++ (Str.join "" ((z :: r) ++ [y])).cps).toList = (x.cps ++ ("" : Str).cps ++ (Str.join "" (z :: r)).cps).toList ++ y.cps.toList
    rw [Array.toList_append, ih]
    simp
theorem join_one_signs (ls : List Nat) : Str.join "" (ls.map fun c => (⟨#[c]⟩ : Str)) = ⟨ls.toArray⟩ := by
  refine list_snoc_ind (P := fun ls => Str.join "" (ls.map fun c => (⟨#[c]⟩ : Str)) = ⟨ls.toArray⟩) rfl (fun xs x ih => ?_) ls
  rw [List.map_append, List.map_singleton]
  by_cases c : xs = []
  · rw [c]; rfl
  · have h := glued_back (⟨#[x]⟩ : Str) (xs.map fun c => (⟨#[c]⟩ : Str)) (by simpa using c)
    rw [ih] at h
    refine PySem.W.str_of_cps ?_
    rw [h]
theorem abc12 : (("abcdefghijkl" : Str)).cps.toList = (List.range 12).map (97 + ·) := by decide +kernel
theorem letter12_at {i : Int} (h0 : 0 ≤ i) (h1 : i < 12) : atI (("abcdefghijkl" : Str)).cps.toList i = some (97 + i.toNat) := by
  rw [atI_eq h0 (by rw [abc12]; simpa using h1), abc12, List.getElem?_map, List.getElem?_range (by omega)]
  rfl
theorem CalledB.inj {stem : List Nat} {f : Int} {i j : Nat} {x : Str} (hi : i < 12) (hj : j < 12) (h : CalledB stem f i x) (h' : CalledB stem f j x) : i = j := by
  unfold CalledB at h h'
  rw [h] at h'
  have e2 : stem ++ [97 + ((f + 5 * (i : Int)) % 12).toNat] = stem ++ [97 + ((f + 5 * (j : Int)) % 12).toNat] := by
    have := congrArg (fun z : Str => z.cps.toList) h'
    simpa using this
  have e4 := List.append_cancel_left e2
  simp at e4
  omega
theorem NamesB.nd {m : Nat} {xs : List Str} (h : NamesB m xs) (hm : m ≤ 12) : xs.Nodup := by
  obtain ⟨h1, stem, f, _, _, h2⟩ := h
  refine List.pairwise_iff_getElem.mpr fun i j hi hj hij e => ?_
  have h3 : xs[i]? = some xs[j] := by rw [← e]; exact List.getElem?_eq_getElem hi
  have := (h2 i _ h3).inj (by omega) (by omega) (h2 j _ (List.getElem?_eq_getElem hj))
  omega
theorem CalledB.name {stem : List Nat} {f : Int} {i : Nat} {x : Str} (hl : stem.length ≤ 5) (hs : Smalls stem) (h : CalledB stem f i x) : isName x = true ∧ x.length ≤ 6 := by
  unfold CalledB at h
  have h12 : ((f + 5 * (i : Int)) % 12).toNat < 12 := by omega
  generalize ((f + 5 * (i : Int)) % 12).toNat = u at h h12
  subst h
  have h1 : (⟨(stem ++ [97 + u]).toArray⟩ : Str).length = stem.length + 1 := by
    show (stem ++ [97 + u]).toArray.size = _
    simp
  have hs2 : Smalls (stem ++ [97 + u]) := fun c hc => by
    rcases List.mem_append.mp hc with hc | hc
    · exact hs c hc
    · rw [List.mem_singleton.mp hc]; omega
  have hne : (⟨(stem ++ [97 + u]).toArray⟩ : Str) ≠ ("names" : Str) := fun e => by
    have e2 : stem ++ [97 + u] = ("names" : Str).cps.toList := by rw [← e]
    have e3 : ("names" : Str).cps.toList = [110, 97, 109, 101] ++ [115] := by decide +kernel
    rw [e3] at e2
    have e4 := (List.append_inj' e2 rfl).2
    simp at e4
    omega
  unfold isName
  simp only [Bool.and_eq_true, decide_eq_true_eq]
  exact ⟨⟨⟨⟨by omega, by omega⟩, small_list hs2⟩, hne⟩, by omega⟩
theorem NamesB.names {m : Nat} {xs : List Str} (h : NamesB m xs) (h0 : 1 ≤ m) (h6 : m ≤ 6) : areNames xs = true := by
  have hnd := h.nd (by omega)
  obtain ⟨h1, stem, f, hl, hs, h2⟩ := h
  unfold areNames
  simp only [Bool.and_eq_true, decide_eq_true_eq, List.all_eq_true]
  refine ⟨⟨⟨by omega, by omega⟩, hnd⟩, fun x hx => ?_⟩
  obtain ⟨i, hi⟩ := List.mem_iff_getElem?.mp hx
  exact ((h2 i x hi).name hl hs).1
theorem SignsB.ok {m : Nat} {xs : List Str} (h : SignsB m xs) : ∀ x ∈ xs, isLetter x = true := fun x hx => by
  obtain ⟨h1, f, h2⟩ := h
  obtain ⟨i, hi⟩ := List.mem_iff_getElem?.mp hx
  have h3 := h2 i x hi
  unfold SignB at h3
  have h26 : ((f + 5 * (i : Int)) % 26).toNat < 26 := by omega
  generalize ((f + 5 * (i : Int)) % 26).toNat = u at h3 h26
  subst h3
  unfold isLetter
  simp only [Bool.and_eq_true, decide_eq_true_eq]
  exact ⟨rfl, small_list (l := [97 + u]) fun c hc => by rw [List.mem_singleton.mp hc]; omega⟩

/-! ### a grammar drawn from a well -/
structure BuiltB (H H' : Hp) (s nl sg ru : Addr) (names signs : List Str) (rs : List Rule) : Prop where
  bt : But s H H'
  nm : H' nl = some (.lst (names.map V.str))
  sn : H' sg = some (.lst (signs.map V.str))
  tr : ∃ ts : List Addr, H' ru = some (.lst (ts.map V.ref)) ∧ Paired (TrioF H H') ts rs
variable {nl sg ru : Addr} {names signs : List Str} {rs : List Rule}
theorem BuiltB.same (b : BuiltB H H' s nl sg ru names signs rs) (e : Same H' H2) : BuiltB H H2 s nl sg ru names signs rs := by
  obtain ⟨ts, h1, h2⟩ := b.tr
  exact ⟨b.bt.same e, e _ _ b.nm, e _ _ b.sn, ts, e _ _ h1, Paired.mapP h2 fun _ _ ⟨a, w, c, h3, h4⟩ => ⟨a, w, c, e _ _ h3, e _ _ h4⟩⟩
theorem BuiltB.but (b : BuiltB H H' s nl sg ru names signs rs) (w : WellAt H' s n) (e : But s H' H2) : BuiltB H H2 s nl sg ru names signs rs := by
  obtain ⟨ts, h1, h2⟩ := b.tr
  exact ⟨b.bt.trans e, e _ _ (w.ne_strs b.nm) b.nm, e _ _ (w.ne_strs b.sn) b.sn, ts, e _ _ (w.ne_refs h1) h1, Paired.mapP h2 fun _ _ ⟨a, x, c, h3, h4⟩ => ⟨a, x, c, e _ _ (w.ne_tup h3) h3, e _ _ (w.ne_strs h4) h4⟩⟩
theorem BuiltB.dict (b : BuiltB H H' s nl sg ru names signs rs) {x : Addr} {kvs kvs2 : List (Key × V)} (hx : H' x = some (.dK kvs)) (h0 : H x = none) : BuiltB H (upd H' x (.dK kvs2)) s nl sg ru names signs rs := by
  obtain ⟨ts, h1, h2⟩ := b.tr
  have kp : ∀ (a : Addr) (o : HO), H' a = some o → (∀ q, o ≠ .dK q) → upd H' x (.dK kvs2) a = some o := fun a o h n => by
    rw [upd_ne (fun z => by rw [z, hx] at h; exact n _ (Option.some.inj h).symm)]; exact h
  exact ⟨b.bt.cell h0 _, kp _ _ b.nm fun q z => (by cases z), kp _ _ b.sn fun q z => (by cases z), ts, kp _ _ h1 fun q z => (by cases z), Paired.mapP h2 fun _ _ ⟨a, w, c, h3, h4⟩ => ⟨a, w, c, kp _ _ h3 fun q z => (by cases z), kp _ _ h4 fun q z => (by cases z)⟩⟩
theorem BuiltB.put (b : BuiltB H H' s nl sg ru names signs rs) (hru : H ru = none) (hn : names ≠ []) (hg : signs ≠ []) {ts : List Addr} (hts : H' ru = some (.lst (ts.map V.ref))) {t w : Addr} {r : Rule} (nw : w ≠ ru) (h : TrioF H H' t r) (hw : H' t = some (.tup [.str r.1, .str r.2.1, .ref w])) :
    BuiltB H (upd H' ru (.lst (ts.map V.ref ++ [.ref t]))) s nl sg ru names signs (rs ++ [r]) := by
  obtain ⟨ts', h1, h2⟩ := b.tr
  have ets : ts' = ts := by
    rw [h1] at hts
    exact List.map_inj_right (fun x y q => V.ref.inj q) |>.mp (HO.lst.inj (Option.some.inj hts))
  subst ets
  have nstr : ∀ {a : Addr} {xs : List Str}, H' a = some (.lst (xs.map V.str)) → xs ≠ [] → a ≠ ru := fun {a xs} h3 hx z => by
    rw [z, h1] at h3
    cases xs with
    | nil => exact hx rfl
    | cons x q => cases ts' with
      | nil => cases h3
      | cons t r => cases h3
  have tp : ∀ (a : Addr) (vs : List V), H' a = some (.tup vs) → upd H' ru (.lst (ts'.map V.ref ++ [.ref t])) a = some (.tup vs) := fun a vs h => by
    rw [upd_ne (fun z => by rw [z, h1] at h; cases h)]; exact h
  have h3 : Paired (TrioF H (upd H' ru (.lst (ts'.map V.ref ++ [.ref t])))) ts' rs := by
    by_cases ce : ts' = []
    · rw [ce] at h2
      rw [ce]
      cases h2
      exact .nil
    · refine Paired.mapP h2 fun t' r' ⟨a, w', c, h3, h4⟩ => ⟨a, w', c, tp _ _ h3, ?_⟩
      rw [upd_ne]
      · exact h4
      · intro z
        rw [z, h1] at h4
        exact ce (strs_refs (Option.some.inj h4).symm)
  obtain ⟨a, w', c, h4, h5⟩ := h
  have ew : w' = w := by
    rw [hw] at h4
    have := HO.tup.inj (Option.some.inj h4)
    simp at this
    exact this.symm
  subst ew
  refine ⟨b.bt.cell hru _, by rw [upd_ne (nstr b.nm hn)]; exact b.nm, by rw [upd_ne (nstr b.sn hg)]; exact b.sn, ts' ++ [t], by rw [upd_same, List.map_append]; rfl, ?_⟩
  exact paired_app (F := TrioF H _) ⟨a, w', c, tp _ _ h4, by rw [upd_ne nw]; exact h5⟩ h3
/-- no two rules of a name by one letter -/
def PlainR (rs : List Rule) : Prop := ∀ n, ((rulesOf rs n).map (·.1)).Nodup
theorem PlainR.put {rs : List Rule} (h : PlainR rs) {r : Rule} (hr : r.2.1 ∉ (rulesOf rs r.1).map (·.1)) : PlainR (rs ++ [r]) := fun n => by
  rw [rulesOf_snoc]
  by_cases c : r.1 = n
  · rw [if_pos c, List.map_append, List.nodup_append]
    refine ⟨h n, by simp, fun a ha b hb e => hr ?_⟩
    rw [c, ← (List.mem_singleton.mp hb : b = r.2.1), ← e]
    exact ha
  · rw [if_neg c]
    exact h n
/-- every name comes to an end -/
def EndsR (names : List Str) (rs : List Rule) : Prop := ∀ x ∈ names, ∃ v, Der (edR rs) x v
theorem Der.more {E E' : List Edge} (h : ∀ e, e ∈ E → e ∈ E') {n : Str} {v : Nat} (d : Der E n v) : Der E' n v := let ⟨k, d⟩ := d; ⟨k, d.sub h⟩
theorem edR_more {rs : List Rule} {r : Rule} : ∀ e, e ∈ edR rs → e ∈ edR (rs ++ [r]) := fun e he => by
  unfold edR at *
  rw [List.map_append]
  exact List.mem_append_left _ he
theorem EndsR.row {names : List Str} {rs : List Rule} (h : EndsR names rs) : ∀ {row : List Str}, (∀ x ∈ row, x ∈ names) → ∃ k, ∃ vs : List Nat, vs.length = row.length ∧ ∀ p ∈ row.zip vs, Dv (edR rs) k p.1 p.2
  | [], _ => ⟨0, [], rfl, fun p hp => by cases hp⟩
  | x :: t, hx => by
    obtain ⟨k, vs, hl, hd⟩ := EndsR.row h (row := t) fun y hy => hx y (List.mem_cons_of_mem _ hy)
    obtain ⟨v, k2, d⟩ := h x (hx x List.mem_cons_self)
    refine ⟨max k k2, v :: vs, by simp [hl], fun p hp => ?_⟩
    rw [List.zip_cons_cons] at hp
    rcases List.mem_cons.mp hp with rfl | hp
    · exact d.mono (Nat.le_max_right _ _)
    · exact (hd p hp).mono (Nat.le_max_left _ _)
theorem EndsR.put {names : List Str} {rs : List Rule} (h : EndsR names rs) {r : Rule} (hr : ∀ x ∈ r.2.2, x ∈ names) : EndsR (names ++ [r.1]) (rs ++ [r]) := fun x hx => by
  rcases List.mem_append.mp hx with hx | hx
  · obtain ⟨v, d⟩ := h x hx
    exact ⟨v, d.more edR_more⟩
  · rw [List.mem_singleton.mp hx]
    obtain ⟨k, vs, hl, hd⟩ := h.row hr
    refine ⟨_, k + 1, r.2.2, ?_, vs, hl, fun p hp => (hd p hp).sub edR_more, rfl⟩
    unfold edR
    rw [List.map_append]
    exact List.mem_append_right _ List.mem_cons_self
theorem EndsR.more {names : List Str} {rs : List Rule} (h : EndsR names rs) (r : Rule) : EndsR names (rs ++ [r]) := fun x hx => by
  obtain ⟨v, d⟩ := h x hx
  exact ⟨v, d.more edR_more⟩
theorem okL {names signs : List Str} {rs : List Rule} (sok : ∀ x ∈ signs, isLetter x = true) (h : ∀ r ∈ rs, r.1 ∈ names ∧ r.2.1 ∈ signs ∧ r.2.2.length ≤ 3 ∧ ∀ x ∈ r.2.2, x ∈ names) : ∀ r ∈ rs, r.1 ∈ names ∧ isLetter r.2.1 = true ∧ r.2.2.length ≤ 3 ∧ ∀ x ∈ r.2.2, x ∈ names := fun r hr => let ⟨a, b, c, d⟩ := h r hr; ⟨a, sok _ b, c, d⟩
def sp_rulesB : Sp := fun vs H Q _ => ∃ (s nl sg : Addr) (plain : Bool) (most : Int) (names signs : List Str) (n : Nat), vs = [.ref s, .ref nl, .ref sg, .bl plain, .int most] ∧ WellAt H s n ∧ n ≤ 10000000 ∧ H nl = some (.lst (names.map V.str)) ∧ H sg = some (.lst (signs.map V.str)) ∧ names.Nodup ∧ 1 ≤ names.length ∧ names.length ≤ 6 ∧ signs ≠ [] ∧ signs.length ≤ 100 ∧ (∀ x ∈ signs, isLetter x = true) ∧
  ∀ p ru kn H' (rs : List Rule), But s H H' → WellAt H' s (n + 1000) → H p = none → H ru = none → H kn = none → H' p = some (.tup [.ref ru, .ref kn]) → (∃ ts : List Addr, H' ru = some (.lst (ts.map V.ref)) ∧ Paired (TrioF H H') ts rs) → (∃ kvs, H' kn = some (.dK kvs)) → GoodR names rs → (plain = true → PlainR rs) → EndsR names rs → rs.length ≤ 24 → (∀ r ∈ rs, r.2.1 ∈ signs) → Q (.ref p) H'
end SG
/-! words, in plain words -/
namespace SG
open PySem PySem.Spec PyProof.Rows L2
abbrev Row? := Option (List Str)
/-- the first rule of n by the letter c -/
def byL (rs : List Rule) (n c : Str) : Option Step := (rulesOf rs n).find? fun p => decide (p.1 = c)
def stepL (rs : List Rule) (o : Row?) (c : Str) : Row? := match o with
  | none => none
  | some [] => none
  | some (n :: t) => (byL rs n c).map fun p => p.2 ++ t
def signsOf (z : Str) : List Str := z.cps.toList.map fun c => (⟨#[c]⟩ : Str)
def byLs (rs : List Rule) (o : Row?) (z : Str) : Row? := (signsOf z).foldl (stepL rs) o
theorem signs_len (z : Str) : (signsOf z).length = z.length := by
  unfold signsOf
  rw [List.length_map]
  exact Array.length_toList
theorem signs_at {z : Str} {i c : Nat} (h : z.cps[i]? = some c) : (signsOf z)[i]? = some ⟨#[c]⟩ := by
  unfold signsOf
  rw [List.getElem?_map, Array.getElem?_toList, h]
  rfl
theorem stepL_none (rs : List Rule) : ∀ zs : List Str, zs.foldl (stepL rs) none = none
  | [] => rfl
  | _ :: r => stepL_none rs r
theorem stepL_len {rs : List Rule} (h : ShortR rs) {o : Row?} {c : Str} {k : Nat} (ho : ∀ r, o = some r → r.length ≤ k) : ∀ r, stepL rs o c = some r → r.length ≤ k + 1000 := fun r e => by
  unfold stepL at e
  match o, ho with
  | none, _ => cases e
  | some [], _ => cases e
  | some (n :: t), ho =>
    simp only at e
    cases h1 : byL rs n c with
    | none => rw [h1] at e; cases e
    | some p =>
      rw [h1] at e
      have e := Option.some.inj e
      have hp := h.2 _ (mem_rulesOf.mp (List.mem_of_find?_eq_some h1))
      have ht := ho _ rfl
      simp at hp ht
      rw [← e, List.length_append]
      omega
theorem stepL_in {names : List Str} {rs : List Rule} (h : ∀ r ∈ rs, ∀ x ∈ r.2.2, x ∈ names) {o : Row?} {c : Str} (ho : ∀ r, o = some r → ∀ x ∈ r, x ∈ names) : ∀ r, stepL rs o c = some r → ∀ x ∈ r, x ∈ names := fun r e => by
  unfold stepL at e
  match o, ho with
  | none, _ => cases e
  | some [], _ => cases e
  | some (n :: t), ho =>
    simp only at e
    cases h1 : byL rs n c with
    | none => rw [h1] at e; cases e
    | some p =>
      rw [h1] at e
      have e := Option.some.inj e
      have hp := h _ (mem_rulesOf.mp (List.mem_of_find?_eq_some h1))
      have ht := ho _ rfl
      intro x hx
      rw [← e] at hx
      rcases List.mem_append.mp hx with hx | hx
      · exact hp x hx
      · exact ht x (List.mem_cons_of_mem _ hx)
/-- None, or a list of names -/
def RowO (H : Hp) (v : V) (o : Row?) : Prop := (v = .non ∧ o = none) ∨ ∃ a row, v = .ref a ∧ o = some row ∧ H a = some (.lst (row.map V.str))
theorem RowO.same {H H' : Hp} {v : V} {o : Row?} (h : RowO H v o) (e : Same H H') : RowO H' v o := by
  rcases h with h | ⟨a, row, h1, h2, h3⟩
  · exact .inl h
  · exact .inr ⟨a, row, h1, h2, e _ _ h3⟩
/-- encoded -/
def eRO : Row? → PyData
  | none => .none
  | some r => eSs r
theorem enc_RO : Enc eRO := fun a b => by
  cases a with
  | none => cases b with
    | none => simp [eRO, PyData.eqv]
    | some y => simp [eRO, eSs, eL, PyData.eqv]
  | some x => cases b with
    | none => simp [eRO, eSs, eL, PyData.eqv]
    | some y =>
      show PyData.eqv (eSs x) (eSs y) = _
      rw [enc_Ss]
      by_cases c : x = y
      · simp [c]
      · simp [c]
theorem dep_RO : Dep eRO 1 := fun a => by
  cases a with
  | none => exact Nat.zero_le _
  | some r => exact dep_Ss r
theorem dp_RO {K : PySem.W.Frag} {H : Hp} {v : V} {o : Row?} (h : RowO H v o) : Dp K H v (eRO o) := by
  rcases h with ⟨rfl, rfl⟩ | ⟨a, row, rfl, rfl, h⟩
  · exact .non
  · exact dp_Ss h
/-- None, or a list of names that H0 does not know -/
def RowF (H0 H : Hp) (v : V) (o : Row?) : Prop := (v = .non ∧ o = none) ∨ ∃ a row, v = .ref a ∧ o = some row ∧ H0 a = none ∧ H a = some (.lst (row.map V.str))
theorem RowF.o {H0 H : Hp} {v : V} {o : Row?} (h : RowF H0 H v o) : RowO H v o := by
  rcases h with h | ⟨a, row, h1, h2, _, h3⟩
  · exact .inl h
  · exact .inr ⟨a, row, h1, h2, h3⟩
theorem RowF.same {H0 H H' : Hp} {v : V} {o : Row?} (h : RowF H0 H v o) (e : Same H H') : RowF H0 H' v o := by
  rcases h with h | ⟨a, row, h1, h2, h3, h4⟩
  · exact .inl h
  · exact .inr ⟨a, row, h1, h2, h3, e _ _ h4⟩
theorem RowF.under {H0 H1 H : Hp} {v : V} {o : Row?} (h : RowF H1 H v o) (e : Same H0 H1) : RowF H0 H v o := by
  rcases h with h | ⟨a, row, h1, h2, h3, h4⟩
  · exact .inl h
  · exact .inr ⟨a, row, h1, h2, e.free h3, h4⟩
/-- its names are known, it is no longer than k -/
def RowK (names : List Str) (k : Nat) (o : Row?) : Prop := ∀ r, o = some r → (∀ x ∈ r, x ∈ names) ∧ r.length ≤ k
theorem RowK.step {names : List Str} {rs : List Rule} {k : Nat} {o : Row?} (h : RowK names k o) (hin : ∀ r ∈ rs, r.1 ∈ names ∧ ∀ x ∈ r.2.2, x ∈ names) (hs : ShortR rs) (c : Str) : RowK names (k + 1000) (stepL rs o c) := fun r e =>
  ⟨stepL_in (fun r hr => (hin r hr).2) (fun r e => (h r e).1) r e, stepL_len hs (fun r e => (h r e).2) r e⟩
/-- twice by a letter -/
def twiceL (names : List Str) (rs : List Rule) : List Str := names.filter fun n => decide ((once ((rulesOf rs n).map (·.1))).length < ((rulesOf rs n).map (·.1)).length)
theorem twiceL_plain {names : List Str} {rs : List Rule} (h : PlainR rs) : twiceL names rs = [] := by
  unfold twiceL
  rw [List.filter_eq_nil_iff]
  intro n _ hc
  have h1 := (once_nodup ((rulesOf rs n).map (·.1))).mpr (h n)
  have := of_decide_eq_true hc
  omega
theorem endl_ends {names : List Str} {rs : List Rule} (h : EndsR names rs) : endl names (normW rs) = [] := by
  unfold endl
  rw [List.filter_eq_nil_iff]
  intro n hn hc
  obtain ⟨v, d⟩ := h n hn
  obtain ⟨u, e, _⟩ := muW_of d
  unfold normW at hc
  rw [e] at hc
  cases hc
/-! ### the law's own walk -/
def matchL (n c : Str) (r : Rule) : Bool := decide (r.1 = n) && decide (r.2.1 = c)
def someL (rs : List Rule) (row : List Str) (c : Str) : List (List Str) := match row with
  | [] => []
  | n :: t => (rs.filter (matchL n c)).map fun r => r.2.2 ++ t
theorem someL_nil (rs : List Rule) (c : Str) : someL rs [] c = [] := rfl
theorem someL_yes {rs : List Rule} {r : Rule} {n c : Str} (t : List Str) (h1 : r.1 = n) (h2 : r.2.1 = c) : someL (rs ++ [r]) (n :: t) c = someL rs (n :: t) c ++ [r.2.2 ++ t] := by
  unfold someL
  simp only
  rw [List.filter_append, List.map_append]
  congr 1
  rw [List.filter_cons_of_pos (by unfold matchL; simp [h1, h2])]
  rfl
theorem someL_no {rs : List Rule} {r : Rule} {n c : Str} (t : List Str) (h : ¬ (r.1 = n ∧ r.2.1 = c)) : someL (rs ++ [r]) (n :: t) c = someL rs (n :: t) c := by
  unfold someL
  simp only
  rw [List.filter_append, List.filter_cons_of_neg (by unfold matchL; simpa using h), List.filter_nil, List.append_nil]
theorem someL_step (rs : List Rule) (row : List Str) (c : Str) : stepL rs (some row) c = (someL rs row c).head? := by
  cases row with
  | nil => rfl
  | cons n t =>
    unfold stepL someL byL rulesOf
    simp only
    rw [List.head?_map, List.head?_filter, List.find?_map, List.find?_filter, Option.map_map]
    have e : (fun a : Rule => decide (decide (a.1 = n) = true ∧ ((fun p : Step => decide (p.1 = c)) ∘ fun x : Rule => x.2) a = true)) = matchL n c := by
      funext a
      unfold matchL
      simp
    rw [e]
    rfl
theorem someL_len (rs : List Rule) (row : List Str) (c : Str) : (someL rs row c).length ≤ rs.length := by
  cases row with
  | nil => exact Nat.zero_le _
  | cons n t =>
    unfold someL
    simp only
    rw [List.length_map]
    exact List.length_filter_le _ _
theorem byLs_dead {rs : List Rule} {o : Row?} {z : Str} {i c : Nat} {r : List Str} (h : ((signsOf z).take i).foldl (stepL rs) o = some r) (hc : z.cps[i]? = some c) (h2 : stepL rs (some r) ⟨#[c]⟩ = none) : byLs rs o z = none := by
  unfold byLs
  have h3 := signs_at hc
  have h4 : (signsOf z).drop i = ⟨#[c]⟩ :: (signsOf z).drop (i + 1) := by
    obtain ⟨hl, hx⟩ := List.getElem?_eq_some_iff.mp h3
    rw [List.drop_eq_getElem_cons hl, hx]
  rw [← List.take_append_drop i (signsOf z), List.foldl_append, h, h4, List.foldl_cons, h2]
  exact stepL_none rs _
theorem dp_lists {K : PySem.W.Frag} {H : Hp} {D : Addr} {us : List Addr} {rows : List (List Str)} (h : H D = some (.lst (us.map V.ref))) (hp : Paired (fun u (r : List Str) => H u = some (.lst (r.map V.str))) us rows) : Dp K H (.ref D) (eL eSs rows) :=
  .lst (SqL.of h) (dpAll_paired (e := eSs) (fun _ _ => dp_Ss) hp)
theorem enc_Rows : Enc (eL eSs) := enc_L enc_Ss
theorem dep_Rows : Dep (eL eSs) 2 := dep_L dep_Ss
theorem RowO.but {H H' : Hp} {s : Addr} {n : Nat} {v : V} {o : Row?} (h : RowO H v o) (w : WellAt H s n) (b : But s H H') : RowO H' v o := by
  rcases h with h | ⟨a, row, h1, h2, h3⟩
  · exact .inl h
  · exact .inr ⟨a, row, h1, h2, b _ _ (w.ne_strs h3) h3⟩
theorem trios_but {H H' : Hp} {s l : Addr} {n : Nat} {rs : List Rule} (h : TriosAt H l rs) (w : WellAt H s n) (b : But s H H') : TriosAt H' l rs := by
  obtain ⟨ts, h1, h2⟩ := h
  exact ⟨ts, b _ _ (w.ne_refs h1) h1, Paired.mapP h2 fun _ _ ⟨x, h3, h4⟩ => ⟨x, b _ _ (w.ne_tup h3) h3, b _ _ (w.ne_strs h4) h4⟩⟩
theorem rowO_none {H : Hp} {v : V} {o : Row?} (h : RowO H v o) : decide (v = V.non) = decide (o = none) := by
  rcases h with ⟨rfl, rfl⟩ | ⟨a, row, rfl, rfl, _⟩
  · rfl
  · rw [decide_eq_false (fun e => by cases e), decide_eq_false (fun e => by cases e)]
theorem ends_rules {names : List Str} {rs : List Rule} (h : EndsR names rs) {n : Str} (hn : n ∈ names) : rulesOf rs n ≠ [] := by
  obtain ⟨v, k, d⟩ := h n hn
  cases k with
  | zero => exact d.elim
  | succ k =>
    obtain ⟨row, hr, _⟩ := d
    unfold edR at hr
    obtain ⟨r, hr1, hr2⟩ := List.mem_map.mp hr
    intro e
    have e1 : r.1 = n := congrArg Prod.fst hr2
    have : r.2 ∈ rulesOf rs n := mem_rulesOf.mpr (by rw [← e1]; exact hr1)
    rw [e] at this
    cases this
/-- a list of texts, turned about -/
def unS : V → Str
  | .str x => x
  | _ => ""
theorem perm_strs {ys : List V} {xs : List Str} (h : ys.Perm (xs.map V.str)) : ∃ zs : List Str, ys = zs.map V.str ∧ zs.Perm xs := by
  refine ⟨ys.map unS, ?_, ?_⟩
  · rw [List.map_map]
    have : ∀ y ∈ ys, (V.str ∘ unS) y = y := fun y hy => by
      obtain ⟨x, _, rfl⟩ := List.mem_map.mp (h.mem_iff.mp hy)
      rfl
    exact (List.map_congr_left this).trans (List.map_id _) |>.symm
  · have := h.map unS
    rw [List.map_map] at this
    rwa [show (unS ∘ V.str) = id from rfl, List.map_id] at this
theorem byLs1 (rs : List Rule) (o : Row?) {c : Str} (h : c.length = 1) : ∃ d, byLs rs o c = stepL rs o d := by
  have h1 := signs_len c
  rw [h] at h1
  unfold byLs
  match h2 : signsOf c, h1 with
  | [d], _ => exact ⟨d, rfl⟩
theorem GoodR.hin {names : List Str} {rs : List Rule} (h : GoodR names rs) : ∀ r ∈ rs, r.1 ∈ names ∧ ∀ x ∈ r.2.2, x ∈ names := fun r hr => ⟨(h.ok r hr).1, (h.ok r hr).2.2.2⟩
theorem WellAt.ne_ins {H : Hp} {s a : Addr} {n : Nat} {C dx : Addr} {fs : List (Str × V)} (h : WellAt H s n) (e : H a = Option.some (HO.ins C dx fs)) : a ≠ s := fun q => by
  obtain ⟨_, _, _, h1, _⟩ := h
  rw [q, h1] at e
  cases e
theorem GramAt.but {C : Addr} {H H' : Hp} {g s : Addr} {n : Nat} {names : List Str} {rs : List Rule} (h : GramAt C H g names rs) (w : WellAt H s n) (b : But s H H') : GramAt C H' g names rs := by
  obtain ⟨dx, kn, st, od, ls, h1, h2, h3, h4⟩ := h.ex
  refine ⟨dx, kn, st, od, ls, b _ _ (w.ne_ins h1) h1, b _ _ (w.ne_strs h2) h2, ⟨b _ _ (w.ne_dk h3.1) h3.1, Paired.mapP h3.2.1 fun _ _ ⟨ts, h5, h6⟩ => ⟨ts, b _ _ (w.ne_refs h5) h5, Paired.mapP h6 fun _ _ ⟨x, h7, h8⟩ => ⟨x, b _ _ (w.ne_tup h7) h7, b _ _ (w.ne_strs h8) h8⟩⟩, h3.2.2⟩, b _ _ (w.ne_strs h4) h4⟩
theorem areNames_nd {xs : List Str} (e : areNames xs = true) : xs.Nodup := by
  unfold areNames at e
  simp only [Bool.and_eq_true, decide_eq_true_eq] at e
  exact e.1.2
theorem areNames_l6 {xs : List Str} (e : areNames xs = true) : xs.length ≤ 6 := by
  unfold areNames at e
  simp only [Bool.and_eq_true, decide_eq_true_eq] at e
  exact e.1.1.2
theorem GoodR.short {names : List Str} {rs : List Rule} (h : GoodR names rs) (hl : rs.length ≤ 100) : ShortR rs := ⟨hl, fun r hr => by have := (h.ok r hr).2.2.1; omega⟩
end SG
/-! sorted(xs, key=lambda x: ..) -/
namespace SG
open PySem PySem.Spec PyProof.Rows L2 LamX
section
variable {β : Type}
/-- the lambda's body: of a value that holds R, the key; all kept -/
def KeyB (prog : Program) (w : World) (scope : Scope) (body : Expr) (x : Str) (key : β → PyData) (R : Heap → Value → β → Prop) : Prop :=
  ∀ (cenv : Env) (A' : Around) (E' : Value → Shared → Prop) (v : Value) (b : β) (s : Shared) (m : Str → Option Value), cenv.scope = scope → R s.heap v b → s.heap.Ns cenv.locals m → m x = some v →
    wpAny (model prog w) A' (eval body cenv) (fun y s' => PySem.W.KeyPure (key b) s y s') E' s
def sKey (key : β → PyData) (xs : List V) (ps : List β) : List V := ((xs.zip ps).mergeSort (PySem.W.dataLe false fun p : V × β => key p.2)).map (·.1)
def tSortLam (K : PySem.W.Frag) (T : List (Addr × Str)) (key : β → PyData) (RV : Hp → V → β → Prop) (te : TE) : TE := fun σ H Q => te σ H fun v H1 => Tabs T H1 ∧ ∃ (a : Addr) (xs : List V) (ps : List β), v = .ref a ∧ SqL K H1 a xs ∧ xs.length = ps.length ∧ (∀ p ∈ xs.zip ps, RV H1 p.1 p.2) ∧
  PySem.W.AllAlike (ps.map key) ∧ PySem.W.Sortable (ps.map key) ∧ (∀ b ∈ ps, (key b).depth ≤ 8) ∧ ∀ H2 q, ExtN H1 H2 → Tabs T H2 → H2 q = none → Q (.ref q) (upd H2 q (.lst (sKey key xs ps)))
/-- a lambda's scope: one name of its own, nothing free -/
structure LamP (scope : Scope) (x : Str) : Prop where
  kind : scope.kind = .function
  co : scope.isCoroutine = false
  gen : scope.isGenerator = false
  cell : ∀ y ∈ scope.names, y.2 ≠ .cell
  free : ∀ y ∈ scope.names, y.2 ≠ .free
  loc : scope.names.lookup x = some .local
theorem each_zip {R : Heap → Value → β → Prop} {h : Heap} : ∀ {xs : List V} {its : List Value} {ps : List β}, Vals xs its → xs.length = ps.length → (∀ (x : V) (u : Value) (b : β), (x, b) ∈ xs.zip ps → RelV x u → R h u b) → PySem.W.EachIs (fun (u : Value) (p : V × β) => RelV p.1 u ∧ R h u p.2) its (xs.zip ps)
  | _, _, [], .nil, _, _ => .nil
  | _, _, [], .cons _ _, e, _ => by simp at e
  | _, _, _ :: _, .nil, e, _ => by simp at e
  | _, _, b :: ps, .cons r t, e, k => .cons ⟨r, k _ _ _ List.mem_cons_self r⟩ (each_zip t (by simpa using e) fun x u b hm => k x u b (List.mem_cons_of_mem _ hm))
theorem vals_each {R : Value → β → Prop} : ∀ {out : List Value} {bs : List (V × β)}, PySem.W.EachIs (fun (u : Value) (p : V × β) => RelV p.1 u ∧ R u p.2) out bs → Vals (bs.map (·.1)) out
  | _, _, .nil => .nil
  | _, _, .cons h t => .cons h.1 (vals_each t)
theorem extN_seq {K : PySem.W.Frag} {H H' : Hp} {a : Addr} {xs : List V} (e : ExtN H H') (h : SqL K H a xs) : SqL K H' a xs := by
  rcases h with (h | ⟨o, h⟩) | h
  · exact .inl (.inl (e _ _ h fun ps z => by cases z))
  · exact .inl (.inr ⟨o, e _ _ h fun ps z => by cases z⟩)
  · exact .inr h
variable {X : Cx}
theorem pe_sortLam {T : List (Addr × Str)} {c P : Addr} {x : Str} {e body : Expr} {te : TE} {params : Arguments} {scope : Scope} {p lpos kpos pos : Pos} {key : β → PyData} {R : Heap → Value → β → Prop} {RV : Hp → V → β → Prop}
    (hg : Gl X "sorted") (hm : X.mg "sorted" = none) (he : PE X e te) (TB : TabB X.base X.mg c P) (hcode : X.env.code = .ref c) (hmT : (P, X.env.qual ++ "<lambda>") ∈ T) (hu : ∀ p ∈ T, p.1 = P → p.2 = X.env.qual ++ "<lambda>") (hr : Room 3 X.A) (L : LamP scope x)
    (hdef : defaultsOf params X.env = ([], [])) (hbind : ∀ (q : Str) (cl : List (Str × Addr)) (pm cv ctv v : Value), bindArgs (PySem.W.kla_fn "<lambda>" q params body scope cl pm cv ctv) ⟨[v], []⟩ = pure [(x, v)])
    (KB : KeyB X.prog X.w scope body x key R) (hRm : ∀ {h h' : Heap} {v : Value} {b : β}, (∀ a o, h.get? a = some o → h'.get? a = some o) → R h v b → R h' v b)
    (hRV : ∀ {pins : List (Addr × Obj)} {s : Shared} {σ : L2.St} {H : Hp} {v : V} {u : Value} {b : β}, Inv X pins σ H s → RelV v u → RV H v b → R s.heap u b) (hRE : ∀ {H H' : Hp} {v : V} {b : β}, ExtN H H' → RV H v b → RV H' v b)
    (hs : starEach [e] X.env = (false, eval e X.env) :: starEach [] X.env := by rfl) :
    PE X (.Call (.Name "sorted" p) [e] [⟨some "key", .Lambda params body scope lpos, kpos⟩] pos) (tSortLam X.K T key RV te) := by
  refine ⟨fun pins s σ H Q I h => ?_⟩
  refine wpAny_Call_Name_kw (ld_blt I hg hm boot_sorted ?_ (by decide) (by decide))
  refine PyProof.Rows.callWith_kw ?_ (by rw [hs]; rfl) (by rw [hs]; rfl) (by rfl) (by rfl)
  rw [hs]
  show wpAny _ _ (spliced ((false, eval e X.env) :: backTo pos (starEach [] X.env))) _ _ s
  refine Calls.spliced_cons (thn (he.run pins s σ H _ I h) fun u s1 ⟨v, H1, I1, r1, hT, a, xs, ps, ev, hq, hlen, hRVs, hal, hso, hdep, q⟩ => ?_)
  refine Calls.spliced_nil ?_
  subst ev
  obtain rfl : u = Value.ref a := r1
  show wpAny _ _ (evalAll ((do let v ← eval (.Lambda params body scope lpos) X.env; standAt pos; pure v) :: [])) _ _ s1
  refine wpAny_evalAll_cons (wpAny_bind (lam_make2 I1 TB hcode hmT hu hT hdef (fun y hy e => absurd e (L.free y hy)) fun f c' pm ctv H2 s2 I2 eN T2 hf hfn hfr hco => wpAny_bind (wpAny_standAt (wpAny_pure ?_))))
  refine wpAny_evalAll_nil ?_
  show wpAny _ _ (call (.builtin "sorted") [.ref a] [(Str.ofString "key", .ref f)]) _ _ s2
  have hq2 := extN_seq eN hq
  obtain ⟨its, rv, hl, hz⟩ := I2.list hq2
  have hE := each_zip (R := R) (h := s2.heap) rv hlen fun y u b hm ru => hRV I2 ru (hRE eN (hRVs _ hm))
  have hmap : (xs.zip ps).map (fun p : V × β => key p.2) = ps.map key := by
    have h1 : (xs.zip ps).map Prod.snd = ps := List.map_snd_zip (by omega)
    show (xs.zip ps).map (key ∘ Prod.snd) = _
    rw [← List.map_map, h1]
  have hun := hr.un
  refine PySem.W.sorted_key_data (b := false) (fun p : V × β => key p.2) hl.isList hE (by rw [hmap]; exact hal) (by rw [hmap]; exact hso) (by rw [← hE.length, ← rv.length]; exact hz) (fun p hp => ?_) (ksk_s1 _ _) (fun _ => ksk_l1 _ _) (fun _ => ksk_t1 _ _) (fun v p hR hp h tk kp => ?_) fun out n h' tk kp fresh hD hlen' eo => ?_
  · have := hdep p.2 (List.of_mem_zip hp).2
    omega
  · have hdp := hr.dp
    have hCR : h.CodeRec (.ref c') (X.env.qual ++ "<lambda>") := by
      obtain ⟨⟨oc, vs, t, e1, e2, e3⟩, _⟩ := (show ObjOk X.prog X.w H2 s2.heap c' (CodeO c' (X.env.qual ++ "<lambda>")) from I2.hok c' _ hco)
      exact ⟨c', oc, vs, t, rfl, kp _ _ e1, e2, e3⟩
    refine wpAny_call (codeAny_mono (R := fun r s' => ∃ u, r = .ok (.ret u) ∧ PySem.W.KeyPure (key p.2) { s2 with heap := h, toks := tk } u s') ?_ fun r s' hq' => ?_)
    · refine PySem.W.kla_callFunE (show X.A.in1.in1.depth < recursionLimit from by show X.A.depth < recursionLimit; omega) (kp _ _ hf) rfl L.co L.gen rfl hCR ?_
      rw [hbind]
      refine wpAny_pure (wpAny_newFunctionEnv L.cell (fun y hy => by rw [List.mem_singleton.mp hy]; exact L.loc) (fun h₁ hns hsb => ⟨((I2.nolimit).keeps kp).fresh _ hsb, ?_⟩) L.kind)
      have hk1 : ∀ b o, h.get? b = some o → h₁.get? b = some o := fun b o e => hsb.extBut b o (Nat.ne_of_lt (Heap.lt_size e)) (Heap.get?_push_of_some _ e)
      refine PySem.W.kla_codeExpr (wpAny_mono (KB _ _ _ v p.2 _ _ rfl (hRm (fun a o e => hk1 a o (kp a o e)) hR.2) hns ?_) (fun u s' hk => ?_) fun _ _ z => z)
      · simp [List.lookup]
      · obtain ⟨h3, tk3, e3, k3, r3⟩ := hk
        exact ⟨u, rfl, h3, tk3, e3, fun b o e => k3 b o (hk1 b o e), r3⟩
    · obtain ⟨u, rfl, hk⟩ := hq'
      exact hk
  · have hout := vals_each (R := fun u b => R s2.heap u b) eo
    have hl2 : (sKey key xs ps).length ≤ sizeLine := by
      unfold sKey
      rw [List.length_map, (List.mergeSort_perm _ _).length_eq, ← hE.length, ← rv.length]
      exact hz
    exact ⟨.ref _, upd H2 (s2.heap.objs.size + 1) (.lst (sKey key xs ps)), I2.laid (t' := tk) kp (Nat.le_succ _) ⟨hl2, out, n, hout, hD⟩, rfl, q H2 _ eN T2 (I2.hok.fresh (Nat.le_succ _))⟩
end
end SG
namespace SG
open PySem PySem.Spec PyProof.Rows L2 LamX
section
variable {β : Type}
/-- a tuple whose first item is a text -/
def R0 (kx : β → Str) (h : Heap) (v : Value) (b : β) : Prop := ∃ (t : Addr) (items : Array Value) (tk : Tok), v = .ref t ∧ IsTup h t items ∧ items[0]? = some (.str (kx b) tk)
def RV0 (kx : β → Str) (H : Hp) (v : V) (b : β) : Prop := ∃ (t : Addr) (r : List V), v = .ref t ∧ H t = some (.tup (.str (kx b) :: r))
theorem keyB_at0 {prog : Program} {w : World} {scope : Scope} {x : Str} {kx : β → Str} {p1 p2 p3 : Pos} {j : Nat} (hk : scope.kind = .function) (hl : scope.names.lookup x = some .local) (hd : (x == ("__debug__" : Str)) = false) :
    KeyB prog w scope (.Subscript (.Name x p1) (.Constant (.int 0) j p2) p3) x (fun b => PyData.str (kx b)) (R0 kx) := by
  intro cenv A' E' v b s m hsc hR hn hm
  obtain ⟨t, items, tk, rfl, ht, h0⟩ := hR
  subst hsc
  refine Subscript_Constant (wpAny_Name (wpAny_loadName_local hk hl hn hm ?_) hd)
  refine wpAny_Constant_int ?_
  refine ⟨"tuple", _, slot_tuple_getitem.lookup, ht.typeIs, getItem_tuple (j := 0) ht (by decide) (by decide) ?_ h0 ?_⟩
  · have hp : 0 < items.size := (Array.getElem?_eq_some_iff.mp h0).1
    unfold seqIndex?
    simp [hp]
  · exact ⟨s.heap, _, rfl, fun _ _ e => e, .str _ _⟩
theorem r0_keeps {kx : β → Str} {h h' : Heap} {v : Value} {b : β} (k : ∀ a o, h.get? a = some o → h'.get? a = some o) (r : R0 kx h v b) : R0 kx h' v b := by
  obtain ⟨t, items, tk, e, ht, h0⟩ := r
  exact ⟨t, items, tk, e, ht.keeps k, h0⟩
theorem r0_of {X : Cx} {kx : β → Str} {pins : List (Addr × Obj)} {s : Shared} {σ : L2.St} {H : Hp} {v : V} {u : Value} {b : β} (I : Inv X pins σ H s) (r : RelV v u) (h : RV0 kx H v b) : R0 kx s.heap u b := by
  obtain ⟨t, rest, rfl, ht⟩ := h
  obtain rfl : u = Value.ref t := r
  obtain ⟨its, rv, pl, _⟩ := I.tuple (SqT.of (K := X.K) ht)
  cases rv with
  | cons r1 rs =>
    obtain ⟨tk, rfl⟩ := r1
    exact ⟨t, _, tk, rfl, pl, by simp⟩
theorem rv0_ext {kx : β → Str} {H H' : Hp} {v : V} {b : β} (e : ExtN H H') (h : RV0 kx H v b) : RV0 kx H' v b := by
  obtain ⟨t, rest, rfl, ht⟩ := h
  exact ⟨t, rest, rfl, e _ _ ht fun ps z => by cases z⟩
end
end SG
/-! heaps of which a table of code objects grows -/
namespace SG
open PySem PySem.Spec PyProof.Rows L2 LamX
/-- no object, or a table -/
def FreeN (H : Hp) (p : Addr) : Prop := ∀ o, H p = some o → ∃ ps, o = .tbl ps
theorem _root_.LamX.ExtN.fr {H H' : Hp} (e : ExtN H H') {p : Addr} (h : H' p = none) : FreeN H p := fun o ho => by
  cases o with
  | tbl ps => exact ⟨ps, rfl⟩
  | _ => rw [e _ _ ho fun ps z => by cases z] at h; cases h
theorem FreeN.of {H : Hp} {p : Addr} (h : H p = none) : FreeN H p := fun o ho => by rw [h] at ho; cases ho
theorem _root_.LamX.ExtN.same {H H1 H2 : Hp} (a : ExtN H H1) (b : Same H1 H2) : ExtN H H2 := fun x o h n => b _ _ (a x o h n)
theorem extN_same {H H' : Hp} (b : Same H H') : ExtN H H' := fun x o h _ => b _ _ h
theorem _root_.LamX.ExtN.mut {H H' : Hp} {p : Addr} (e : ExtN H H') (f : FreeN H p) (u : HO) : ExtN H (upd H' p u) := fun a o h n => by
  rw [upd_ne (fun z => by obtain ⟨ps, q⟩ := f o (z ▸ h); exact n ps q)]
  exact e a o h n
theorem _root_.LamX.ExtN.lst {H H' : Hp} (e : ExtN H H') {a : Addr} {xs : List V} (h : H a = some (.lst xs)) : H' a = some (.lst xs) := e _ _ h fun ps z => by cases z
theorem _root_.LamX.ExtN.tup {H H' : Hp} (e : ExtN H H') {a : Addr} {xs : List V} (h : H a = some (.tup xs)) : H' a = some (.tup xs) := e _ _ h fun ps z => by cases z
theorem _root_.LamX.ExtN.dk {H H' : Hp} (e : ExtN H H') {a : Addr} {xs : List (Key × V)} (h : H a = some (.dK xs)) : H' a = some (.dK xs) := e _ _ h fun ps z => by cases z
theorem _root_.LamX.ExtN.ins {H H' : Hp} (e : ExtN H H') {a C dx : Addr} {fs : List (Str × V)} (h : H a = some (HO.ins C dx fs)) : H' a = some (HO.ins C dx fs) := e _ _ h fun ps z => by cases z
theorem GramAt.ext {C : Addr} {H H' : Hp} {g : Addr} {names : List Str} {rs : List Rule} (h : GramAt C H g names rs) (e : ExtN H H') : GramAt C H' g names rs := by
  obtain ⟨dx, kn, st, od, ls, h1, h2, h3, h4⟩ := h.ex
  exact ⟨dx, kn, st, od, ls, e.ins h1, e.lst h2, ⟨e.dk h3.1, Paired.mapP h3.2.1 fun _ _ ⟨ts, h5, h6⟩ => ⟨ts, e.lst h5, Paired.mapP h6 fun _ _ ⟨x, h7, h8⟩ => ⟨x, e.tup h7, e.lst h8⟩⟩, h3.2.2⟩, e.lst h4⟩
/-- a list is written -/
theorem tabs_lst {T : List (Addr × Str)} {H : Hp} {p : Addr} {xs : List V} (t : Tabs T H) (h : H p = some (.lst xs)) (u : HO) : Tabs T (upd H p u) := fun q hq => by
  obtain ⟨ps, h1, h2, h3⟩ := t q hq
  refine ⟨ps, by rw [upd_ne (fun z => by rw [z, h] at h1; cases h1)]; exact h1, h2, fun pos cv hc => ?_⟩
  obtain ⟨c, e1, e2⟩ := h3 pos cv hc
  refine ⟨c, e1, ?_⟩
  rw [upd_ne (fun z => by
    rw [z, h] at e2
    have e2 := Option.some.inj e2
    unfold CodeO at e2
    cases e2)]
  exact e2
theorem tabs_same {T : List (Addr × Str)} {H H' : Hp} (t : Tabs T H) (e : Same H H') : Tabs T H' := t.ext e
theorem trios_ext {H H' : Hp} {l : Addr} {rs : List Rule} (h : TriosAt H l rs) (e : ExtN H H') : TriosAt H' l rs := by
  obtain ⟨ts, h1, h2⟩ := h
  exact ⟨ts, e.lst h1, Paired.mapP h2 fun _ _ ⟨x, h3, h4⟩ => ⟨x, e.tup h3, e.lst h4⟩⟩
/-- a new list of new rows; a table may have grown -/
def RowsT (H H' : Hp) (p : Addr) (ps : List Step) : Prop := ∃ ts : List Addr, H' p = some (.lst (ts.map V.ref)) ∧ FreeN H p ∧ Paired (RuleAt H') ts ps
theorem RuleAt.ext {H H' : Hp} (e : ExtN H H') {t : Addr} {p : Step} (h : RuleAt H t p) : RuleAt H' t p := by
  obtain ⟨w, h1, h2⟩ := h
  exact ⟨w, e.tup h1, e.lst h2⟩
theorem zip_in {α : Type} {R : Addr → α → Prop} : ∀ {ts : List Addr} {ps : List α}, Paired R ts ps → ∀ {t : Addr} {p : α}, (t, p) ∈ ts.zip ps → R t p
  | _, _, .nil, _, _, h => by cases h
  | _, _, .cons h1 k, _, _, h => by
    rw [List.zip_cons_cons] at h
    rcases List.mem_cons.mp h with h | h
    · cases h
      exact h1
    · exact zip_in k h
theorem zip_refs {α : Type} : ∀ {us : List Addr} {ps : List α} {p : V × α}, p ∈ (us.map V.ref).zip ps → ∃ u, p.1 = V.ref u ∧ (u, p.2) ∈ us.zip ps
  | [], _, _, h => by simp at h
  | _ :: _, [], _, h => by simp at h
  | u :: us, b :: ps, p, h => by
    rw [List.map_cons, List.zip_cons_cons] at h
    rcases List.mem_cons.mp h with rfl | h
    · exact ⟨u, rfl, List.mem_cons_self⟩
    · obtain ⟨v, e, m⟩ := zip_refs h
      exact ⟨v, e, List.mem_cons_of_mem _ m⟩
theorem refs_of {α : Type} {R : Addr → α → Prop} : ∀ {l : List (V × α)}, (∀ p ∈ l, ∃ u, p.1 = V.ref u ∧ R u p.2) → ∃ ts : List Addr, l.map (·.1) = ts.map V.ref ∧ Paired R ts (l.map (·.2))
  | [], _ => ⟨[], rfl, .nil⟩
  | p :: l, h => by
    obtain ⟨ts, e, hp⟩ := refs_of (l := l) fun q hq => h q (List.mem_cons_of_mem _ hq)
    obtain ⟨u, e1, r⟩ := h p List.mem_cons_self
    exact ⟨u :: ts, by rw [List.map_cons, e1, e, List.map_cons], .cons r hp⟩
theorem sKey_rows {α : Type} {R : Addr → α → Prop} {key : α → PyData} {us : List Addr} {ps : List α} (hp : Paired R us ps) : ∃ ts : List Addr, sKey key (us.map V.ref) ps = ts.map V.ref ∧ Paired R ts (ps.mergeSort (PySem.W.dataLe false key)) := by
  have hl := paired_len hp
  have h1 : (((us.map V.ref).zip ps).mergeSort (PySem.W.dataLe false fun p : V × α => key p.2)).map (·.2) = ps.mergeSort (PySem.W.dataLe false key) := by
    have h2 := PySem.W.sort_maps (r := PySem.W.dataLe false (fun p : V × α => key p.2)) (s := PySem.W.dataLe false key) (Prod.snd : V × α → α) (l := (us.map V.ref).zip ps) (fun a _ b _ => rfl)
    rw [List.map_snd_zip (by rw [List.length_map]; omega)] at h2
    exact h2
  obtain ⟨ts, e, h3⟩ := refs_of (R := R) (l := ((us.map V.ref).zip ps).mergeSort (PySem.W.dataLe false fun p : V × α => key p.2)) fun p hpm => by
    obtain ⟨u, e1, m⟩ := zip_refs ((List.mergeSort_perm _ _).mem_iff.mp hpm)
    exact ⟨u, e1, zip_in hp m⟩
  rw [h1] at h3
  exact ⟨ts, e, h3⟩
/-- a def by its body; its code object is told -/
theorem fun_okC {P : Program} {w : World} {K : PySem.W.Frag} {mg : Str → Option Value} {base : Heap} {x qual : Str} {st : Stmt} {f : Addr} {fd : FuncData} {N ps : List Str} {k : Nat} {sp : Sp} (F : Fun K x qual st f fd) (S : FnScope N ps (defScope st)) (len : ∀ vs H Q E, sp vs H Q E → vs.length = ps.length)
    (body : ∀ (cdv : Value), fd.code = cdv → ∀ (A : Around) (outer : List Env) (s : Shared) (H : Hp) (vs : List V) (Q : VK) (E : XK), Room k (A.deeper (envOfC qual (defScope st) s.heap.objs.size f cdv)) → sp vs H Q E →
      ∃ t, PSs (cxOf CX0 P w K mg base N qual (defScope st) f cdv A outer s H E).nox (defBody st) t ∧ t { nx := fun _ H' => Q .non H', rt := Q } (start N vs) H) : FnOk P w K mg base CX0 (k + 1) f fd ps sp := by
  obtain ⟨_, _, _, _, _, _, cdv, _, _, efd, look, coded⟩ := F.ex
  subst efd
  refine fn_of look coded S len ?_
  intro A outer s H vs Q E room told
  obtain ⟨t, runs, q⟩ := body cdv rfl A outer s H vs Q E room told
  exact ⟨t, runs.nox, q⟩
/-- the table of the def at f2 is empty; its code object stands -/
def OwnTab2 (K : PySem.W.Frag) (f2 : Addr) (h : Heap) : Prop := ∀ (c : Addr) (o : Obj) (fd : FuncData), K.lookup f2 = some o → o.data = .func fd → fd.code = .ref c →
  ∃ P, PySem.W.CodeHd h c P ∧ h.get? P = some { cls := .none, data := .fields #[] } ∧ ∀ (e : Value) (dd : Option Addr) (vs : Array Value) (sl : Array (Option Value)), K.lookup c = some ⟨e, dd, .fields vs, sl⟩ → vs[11]? = some (.ref P)
/-- the end, where a def of the program's holds a lambda -/
theorem walk_own2 {l : PySem.W.OpenLaw} {n k : Nat} {q : Program} {loose : List Str} {XP : (Str → Option Value) → Heap → Prop} {YP : World → Heap → Prop} {d : DefRec} {K : Params → PySem.W.Frag} {CX : World → CXT} {x n2 : Str} (hn : l.most = some n) (hn2 : n ≤ sizeLine) (hdf : d.params.defaults = []) (hr : Room k callerA) (hrec : ((recsOf q).any fun e => e.name == n2) = true) (hY : ∀ (w : World) (h : Heap), YP w h → (K w.params).In h) (F : ∀ (w : World) (mg : Str → Option Value) (fa : Addr) (h : Heap), YP w h → (K w.params).In h → h.Ns mainGlobals mg → mg d.name = some (.ref fa) → (∀ f2, mg n2 = some (.ref f2) → OwnTab2 (K w.params) f2 h) → LawAtS l w (K w.params) (CX w) k n x mg fa h) (hCX : ∀ (w : World) (H : Hp) (s : Shared) (e : Value) (s' : Shared), CX w [] H s (fun _ _ _ => False) e s' → False) : PySem.W.WalkO q loose XP YP l.row.toRowW d [] (fun f vs => PySem.call f vs) := by
  refine Att.attach_callB hn hdf ?_
  intro w s₀ s₁ mg mb fa o pm cd doc a vs ns G Y ho hd hcd hmg hobj hints hlen hbits hgens
  have KX := hY w _ Y
  have tabs : ∀ f2, mg n2 = some (.ref f2) → OwnTab2 (K w.params) f2 s₁.heap := by
    intro f2 hm2 c o1 fd1 k1 k2 k3
    obtain ⟨dL, mL, nL⟩ := List.any_eq_true.mp hrec
    obtain ⟨a', o', fd', c', P', g1, g2, g3, g4, g5, g6⟩ := G.T.tab dL mL
    rw [show dL.name = n2 from beq_iff_eq.mp nL, hm2] at g1
    cases g1
    rw [KX _ _ k1] at g2
    cases g2
    rw [k2] at g3
    cases g3
    rw [k3] at g4
    cases g4
    refine ⟨P', PySem.W.CodeHd.of g5 g6, g6.2, fun e dd vs sl k4 => ?_⟩
    obtain ⟨⟨oc, vc, t1, _, t3, t4⟩, tP⟩ := g6
    rw [KX _ _ k4] at t1
    cases t1
    cases t3
    exact t4
  obtain ⟨fd, cs, sp, b1, b2, b3, b4, b5, b6⟩ := F w mg fa _ Y KX G.T.g hmg tabs
  refine law_callTs KX G.T.g G.T.b G.T.builtins G.T.nolimit hgens b1 b2 b3 G.T.bmain hobj hints (Nat.le_trans hlen hn2) hr b6 b4 ?_ ?_
  · exact fun H hH hS => b5 H a ns hlen hbits hH hS
  · exact fun H e s' => hCX w H s₁ e s'
end SG
/-! words by layers, in plain words -/
namespace SG
open PySem PySem.Spec PyProof.Rows L2
abbrev WR := Str × List Str
/-- a name's rules by their letters -/
def kRules (rs : List Rule) (n : Str) : List Step := (rulesOf rs n).mergeSort (PySem.W.dataLe false fun p : Step => PyData.str p.1)
def nextW (f : Str → List Step) (p : WR) : List WR := match p.2 with
  | [] => []
  | n :: t => (f n).map fun q => (p.1 ++ q.1, q.2 ++ t)
def layW (f : Str → List Step) (row : List Str) : Nat → List WR
  | 0 => [("", row)]
  | i + 1 => (layW f row i).flatMap (nextW f)
def doneW (L : List WR) : List Str := (L.filter fun p => decide (p.2 = [])).map (·.1)
def wordsW (f : Str → List Step) (row : List Str) (k : Nat) : List Str := (List.range k).flatMap fun i => doneW (layW f row i)
theorem wordsW_snoc (f : Str → List Step) (row : List Str) (k : Nat) : wordsW f row (k + 1) = wordsW f row k ++ doneW (layW f row k) := by
  unfold wordsW
  rw [List.range_succ, List.flatMap_append]
  simp
theorem layW_congr {f g : Str → List Step} (h : ∀ n, f n = g n) (row : List Str) (i : Nat) : layW f row i = layW g row i := by
  have e : f = g := funext h
  rw [e]
/-! all texts of some letters -/
def allT (sg : List Str) : Nat → List Str
  | 0 => [""]
  | i + 1 => (allT sg i).flatMap fun w => sg.map (w ++ ·)
def triedW (rs : List Rule) (row : List Str) (sg : List Str) (k : Nat) : List Str := (List.range k).flatMap fun i => (allT sg i).filter fun w => decide (byLs rs (some row) w = some [])
theorem triedW_snoc (rs : List Rule) (row sg : List Str) (k : Nat) : triedW rs row sg (k + 1) = triedW rs row sg k ++ (allT sg k).filter fun w => decide (byLs rs (some row) w = some []) := by
  unfold triedW
  rw [List.range_succ, List.flatMap_append]
  simp
theorem signs_app (a b : Str) : signsOf (a ++ b) = signsOf a ++ signsOf b := by
  unfold signsOf
  rw [← List.map_append]
  congr 1
  exact Array.toList_append
theorem signs_nil : signsOf "" = [] := by decide +kernel
theorem signs_one {c : Str} (h : c.length = 1) : signsOf c = [c] := by
  have h1 : c.cps.size = 1 := h
  unfold signsOf
  match e : c.cps.toList with
  | [] => rw [← Array.length_toList, e] at h1; cases h1
  | [x] =>
    rw [List.map_singleton]
    congr 1
    exact PySem.W.str_of_cps e.symm
  | _ :: _ :: _ => rw [← Array.length_toList, e] at h1; simp at h1
theorem byLs_app {rs : List Rule} {o : Row?} {w c : Str} (h : c.length = 1) : byLs rs o (w ++ c) = stepL rs (byLs rs o w) c := by
  unfold byLs
  rw [signs_app, signs_one h, List.foldl_append]
  rfl
theorem filterMap_cg {α β : Type} {f g : α → Option β} : ∀ {l : List α}, (∀ a ∈ l, f a = g a) → l.filterMap f = l.filterMap g
  | [], _ => rfl
  | a :: l, h => by rw [List.filterMap_cons, List.filterMap_cons, h a List.mem_cons_self, filterMap_cg fun b hb => h b (List.mem_cons_of_mem _ hb)]
def pairW (rs : List Rule) (row : List Str) (w : Str) : Option WR := (byLs rs (some row) w).map fun r => (w, r)
theorem filterMap_flat {α β γ : Type} (f : β → Option γ) (g : α → List β) : ∀ l : List α, (l.flatMap g).filterMap f = l.flatMap fun a => (g a).filterMap f
  | [] => rfl
  | a :: l => by rw [List.flatMap_cons, List.filterMap_append, filterMap_flat f g l, List.flatMap_cons]
theorem flat_filterMap {α β γ : Type} (f : α → Option β) (g : β → List γ) : ∀ l : List α, (l.filterMap f).flatMap g = l.flatMap fun a => (f a).elim [] g
  | [] => rfl
  | a :: l => by
    rw [List.flatMap_cons, List.filterMap_cons]
    cases f a with
    | none => exact flat_filterMap f g l
    | some b =>
      simp only
      rw [List.flatMap_cons, flat_filterMap f g l]
      rfl
/-- letters of a name, in their order -/
def LettersAre (rs : List Rule) (sg : List Str) (f : Str → List Step) (names : List Str) : Prop := ∀ n ∈ names, sg.filterMap (byL rs n) = f n
theorem layer_step {rs : List Rule} {sg : List Str} {f : Str → List Step} {names : List Str} (hf : LettersAre rs sg f names) (h1 : ∀ c ∈ sg, c.length = 1) {row : List Str} {w : Str} (hr : ∀ r, byLs rs (some row) w = some r → ∀ x ∈ r, x ∈ names) :
    (sg.map (w ++ ·)).filterMap (pairW rs row) = (pairW rs row w).elim [] (nextW f) := by
  have key : ∀ c ∈ sg, pairW rs row (w ++ c) = (stepL rs (byLs rs (some row) w) c).map fun r => (w ++ c, r) := fun c hc => by
    unfold pairW
    rw [byLs_app (h1 c hc)]
  rw [List.filterMap_map]
  have e : sg.filterMap (pairW rs row ∘ (w ++ ·)) = sg.filterMap fun c => (stepL rs (byLs rs (some row) w) c).map fun r => (w ++ c, r) := by
    refine filterMap_cg fun c hc => ?_
    exact key c hc
  rw [e]
  unfold pairW
  cases hb : byLs rs (some row) w with
  | none => simp [stepL]
  | some r =>
    cases r with
    | nil => simp [stepL, nextW]
    | cons n t =>
      have hn := hr _ hb n List.mem_cons_self
      show _ = nextW f (w, n :: t)
      unfold nextW
      simp only
      rw [← hf n hn, List.map_filterMap]
      refine filterMap_cg fun c hc => ?_
      show ((byL rs n c).map fun p => p.2 ++ t).map _ = _
      cases hby : byL rs n c with
      | none => rfl
      | some p =>
        have hpc : p.1 = c := by
          have := List.find?_some hby
          simpa using this
        simp [hpc]
theorem layers {rs : List Rule} {sg : List Str} {f : Str → List Step} {names : List Str} (hf : LettersAre rs sg f names) (h1 : ∀ c ∈ sg, c.length = 1) {row : List Str} (hin : ∀ r ∈ rs, ∀ x ∈ r.2.2, x ∈ names) (hrow : ∀ x ∈ row, x ∈ names) : ∀ i, layW f row i = (allT sg i).filterMap (pairW rs row)
  | 0 => by
    show [((("" : Str)), row)] = [("" : Str)].filterMap (pairW rs row)
    have : pairW rs row "" = some ((("" : Str)), row) := by
      unfold pairW byLs
      rw [signs_nil]
      rfl
    rw [List.filterMap_cons, this]
    rfl
  | i + 1 => by
    have hr : ∀ w r, byLs rs (some row) w = some r → ∀ x ∈ r, x ∈ names := fun w => by
      unfold byLs
      have g : ∀ (l : List Str) (o : Row?), (∀ r, o = some r → ∀ x ∈ r, x ∈ names) → ∀ r, l.foldl (stepL rs) o = some r → ∀ x ∈ r, x ∈ names := fun l => by
        induction l with
        | nil => intro o ho r e; exact ho r e
        | cons c l ih => intro o ho r e; exact ih _ (stepL_in hin ho) r e
      exact g _ _ fun r e x hx => hrow x (by rw [Option.some.inj e]; exact hx)
    show (layW f row i).flatMap (nextW f) = ((allT sg i).flatMap fun w => sg.map (w ++ ·)).filterMap (pairW rs row)
    rw [layers hf h1 hin hrow i, filterMap_flat, flat_filterMap]
    congr 1
    funext w
    exact (layer_step hf h1 (hr w)).symm
theorem done_layer (rs : List Rule) (row : List Str) : ∀ l : List Str, doneW (l.filterMap (pairW rs row)) = l.filter fun w => decide (byLs rs (some row) w = some [])
  | [] => rfl
  | w :: l => by
    have ih := done_layer rs row l
    unfold doneW at ih ⊢
    rw [List.filterMap_cons, List.filter_cons]
    have e : pairW rs row w = (byLs rs (some row) w).map fun r => (w, r) := rfl
    cases hb : byLs rs (some row) w with
    | none =>
      rw [e, hb]
      simp only [Option.map_none]
      rw [ih]
      simp
    | some r =>
      rw [e, hb]
      simp only [Option.map_some]
      rw [List.filter_cons]
      by_cases c : r = []
      · subst c
        simp [ih]
      · simp [c, ih]
theorem tried_words {rs : List Rule} {sg : List Str} {f : Str → List Step} {names : List Str} (hf : LettersAre rs sg f names) (h1 : ∀ c ∈ sg, c.length = 1) {row : List Str} (hin : ∀ r ∈ rs, ∀ x ∈ r.2.2, x ∈ names) (hrow : ∀ x ∈ row, x ∈ names) (k : Nat) : triedW rs row sg k = wordsW f row k := by
  unfold triedW wordsW
  congr 1
  funext i
  rw [layers hf h1 hin hrow i, done_layer]
/-! letters in their order -/
theorem find_pl : ∀ {l : List Step} {p : Step}, (l.map (·.1)).Nodup → p ∈ l → l.find? (fun q => decide (q.1 = p.1)) = some p
  | [], _, _, h => by cases h
  | x :: l, p, nd, h => by
    rw [List.map_cons, List.nodup_cons] at nd
    rcases List.mem_cons.mp h with rfl | h
    · rw [List.find?_cons_of_pos (by simp)]
    · rw [List.find?_cons_of_neg, find_pl nd.2 h]
      intro e
      exact nd.1 (by rw [of_decide_eq_true e]; exact List.mem_map_of_mem h)
theorem byL_iff {rs : List Rule} (hp : PlainR rs) {n c : Str} {p : Step} : byL rs n c = some p ↔ p ∈ rulesOf rs n ∧ p.1 = c := by
  unfold byL
  constructor
  · intro h
    exact ⟨List.mem_of_find?_eq_some h, by simpa using List.find?_some h⟩
  · rintro ⟨h, rfl⟩
    exact find_pl (hp n) h
theorem le_str (a b : Str) : leE PyData.str a b = decide (a.cps.toList ≤ b.cps.toList) := congrFun (congrFun (PySem.W.dataLe_str (fun x : Str => x)) a) b
theorem le_row {a b : Step} (hne : a.1 ≠ b.1) (h : leE PyData.str a.1 b.1 = true) : leE eRow a b = true := by
  have e1 : leE eRow a b = !PySem.W.dataLt (eRow b) (eRow a) := rfl
  have e2 : leE PyData.str a.1 b.1 = !PySem.W.dataLt (PyData.str b.1) (PyData.str a.1) := rfl
  rw [e1]
  rw [e2] at h
  show (!PySem.W.dataLt (.tuple [PyData.str b.1, eSs b.2]) (.tuple [PyData.str a.1, eSs a.2])) = true
  rw [PySem.W.dataLt_pair (alk_str _ _) (alk_L alk_str _ _), if_neg]
  · exact h
  · rw [enc_str]
    intro z
    exact hne (of_decide_eq_true z).symm
theorem letters_row {rs : List Rule} {signs : List Str} (hp : PlainR rs) (hs : ∀ r ∈ rs, r.2.1 ∈ signs) (nd : signs.Nodup) (n : Str) : (ssort signs).filterMap (byL rs n) = esort eRow (rulesOf rs n) := by
  have nds : (ssort signs).Nodup := (ssort_perm signs).nodup_iff.mpr nd
  have pw : (ssort signs).Pairwise fun a b => a ≠ b ∧ decide (a.cps.toList ≤ b.cps.toList) = true := List.Pairwise.and nds (ssort_pair signs)
  refine esort_of enc_Row alk_Row ?_ ?_
  · refine (List.perm_ext_iff_of_nodup ?_ ?_).mpr fun p => ?_
    · have g : ∀ a b : Str, a ≠ b → ∀ p, byL rs n a = some p → ∀ q, byL rs n b = some q → p ≠ q := fun a b hab p hpa q hqb e => hab (by rw [← ((byL_iff hp).mp hpa).2, ← ((byL_iff hp).mp hqb).2, e])
      exact List.Pairwise.filterMap _ g nds
    · exact (List.pairwise_map.mp (hp n)).imp fun h e => h (by rw [e])
    · rw [List.mem_filterMap]
      constructor
      · rintro ⟨c, _, h⟩
        exact ((byL_iff hp).mp h).1
      · intro h
        exact ⟨p.1, (ssort_perm signs).mem_iff.mpr (hs _ (mem_rulesOf.mp h)), (byL_iff hp).mpr ⟨h, rfl⟩⟩
  · refine List.Pairwise.filterMap _ (fun a b hab p hpa q hqb => ?_) pw
    have e1 := ((byL_iff hp).mp hpa).2
    have e2 := ((byL_iff hp).mp hqb).2
    refine le_row (by rw [e1, e2]; exact hab.1) ?_
    rw [e1, e2, le_str]
    exact hab.2
theorem kRules_row {rs : List Rule} (hp : PlainR rs) (n : Str) : kRules rs n = esort eRow (rulesOf rs n) := by
  have hperm : (kRules rs n).Perm (rulesOf rs n) := List.mergeSort_perm _ _
  have nd : ((kRules rs n).map (·.1)).Nodup := (hperm.map _).nodup_iff.mpr (hp n)
  have pw : (kRules rs n).Pairwise fun a b => leE PyData.str a.1 b.1 = true := esort_pair (fun p : Step => PyData.str p.1) (rulesOf rs n)
  refine esort_of enc_Row alk_Row hperm ?_
  exact (List.Pairwise.and (List.pairwise_map.mp nd) pw).imp fun h => le_row h.1 h.2
theorem letters_are {rs : List Rule} {signs names : List Str} (hp : PlainR rs) (hs : ∀ r ∈ rs, r.2.1 ∈ signs) (nd : signs.Nodup) : LettersAre rs (ssort signs) (fun n => esort eRow (rulesOf rs n)) names := fun n _ => letters_row hp hs nd n
theorem signsB_nd {m : Nat} {xs : List Str} (h : SignsB m xs) (hm : m ≤ 26) : xs.Nodup := by
  obtain ⟨h1, f, h2⟩ := h
  refine List.pairwise_iff_getElem.mpr fun i j hi hj hij e => ?_
  have a := h2 i _ (List.getElem?_eq_getElem hi)
  have b := h2 j _ (List.getElem?_eq_getElem hj)
  unfold SignB at a b
  rw [e, b] at a
  have e2 := congrArg (fun z : Str => z.cps.toList) a
  simp at e2
  omega
/-! bounds -/
theorem layW_len {rs : List Rule} {f : Str → List Step} {row : List Str} (hf : ∀ n, (f n).length ≤ 4) : ∀ i, (layW f row i).length ≤ 4 ^ i
  | 0 => Nat.le_refl _
  | i + 1 => by
    have ih := layW_len (rs := rs) (row := row) hf i
    have g : ∀ l : List WR, (l.flatMap (nextW f)).length ≤ l.length * 4 := fun l => by
      induction l with
      | nil => exact Nat.zero_le _
      | cons p l ih =>
        rw [List.flatMap_cons, List.length_append, List.length_cons, Nat.add_mul]
        have : (nextW f p).length ≤ 4 := by
          unfold nextW
          split
          · exact Nat.zero_le _
          · rw [List.length_map]; exact hf _
        omega
    have := g (layW f row i)
    show ((layW f row i).flatMap (nextW f)).length ≤ _
    rw [Nat.pow_succ]
    omega
theorem str_len (a b : Str) : (a ++ b).length = a.length + b.length := Array.size_append
def LayOk (names : List Str) (k i : Nat) (L : List WR) : Prop := ∀ p ∈ L, p.1.length ≤ i ∧ p.2.length ≤ k + 3 * i ∧ ∀ x ∈ p.2, x ∈ names
theorem layW_ok {rs : List Rule} {names : List Str} {f : Str → List Step} (hg : GoodR names rs) (hf : ∀ n q, q ∈ f n → q ∈ rulesOf rs n) {row : List Str} {k : Nat} (hr : row.length ≤ k) (hi : ∀ x ∈ row, x ∈ names) : ∀ i, LayOk names k i (layW f row i)
  | 0 => fun p hp => by
    rw [List.mem_singleton.mp hp]
    exact ⟨Nat.le_refl _, by simpa using hr, hi⟩
  | i + 1 => fun p hp => by
    obtain ⟨p0, hp0, h⟩ := List.mem_flatMap.mp (show p ∈ (layW f row i).flatMap (nextW f) from hp)
    obtain ⟨a1, a2, a3⟩ := layW_ok hg hf hr hi i p0 hp0
    unfold nextW at h
    split at h
    · cases h
    · rename_i n t e
      rw [e] at a2 a3
      obtain ⟨q, hq, rfl⟩ := List.mem_map.mp h
      obtain ⟨_, b2, b3, b4⟩ := hg.ok _ (mem_rulesOf.mp (hf _ _ hq))
      have b2' := isLetter_len b2
      simp only at b2' b3 b4
      refine ⟨by rw [str_len]; omega, by rw [List.length_append]; simp at a2; omega, fun x hx => ?_⟩
      rcases List.mem_append.mp hx with hx | hx
      · exact b4 x hx
      · exact a3 x (List.mem_cons_of_mem _ hx)
theorem doneW_snoc (L : List WR) (p : WR) : doneW (L ++ [p]) = if p.2 = [] then doneW L ++ [p.1] else doneW L := by
  unfold doneW
  rw [List.filter_append, List.map_append]
  by_cases c : p.2 = []
  · simp [c]
  · simp [c]
theorem doneW_len (L : List WR) : (doneW L).length ≤ L.length := by
  unfold doneW
  rw [List.length_map]
  exact List.length_filter_le _ _
theorem wordsW_len {rs : List Rule} {f : Str → List Step} {row : List Str} (hf : ∀ n, (f n).length ≤ 4) : ∀ k, (wordsW f row k).length ≤ k * 4 ^ k
  | 0 => Nat.le_refl _
  | k + 1 => by
    have ih := wordsW_len (rs := rs) (row := row) hf k
    have h1 := layW_len (rs := rs) (row := row) hf k
    have h2 := doneW_len (layW f row k)
    rw [wordsW_snoc, List.length_append, Nat.pow_succ, Nat.add_mul]
    have h3 : k * 4 ^ k ≤ k * (4 ^ k * 4) := Nat.mul_le_mul_left _ (by omega)
    omega
theorem allT_len {sg : List Str} (h : sg.length ≤ 4) : ∀ i, (allT sg i).length ≤ 4 ^ i
  | 0 => Nat.le_refl _
  | i + 1 => by
    have ih := allT_len h i
    have g : ∀ l : List Str, (l.flatMap fun w => sg.map (w ++ ·)).length ≤ l.length * 4 := fun l => by
      induction l with
      | nil => exact Nat.zero_le _
      | cons p l ih =>
        rw [List.flatMap_cons, List.length_append, List.length_cons, Nat.add_mul, List.length_map]
        omega
    have := g (allT sg i)
    show ((allT sg i).flatMap fun w => sg.map (w ++ ·)).length ≤ _
    rw [Nat.pow_succ]
    omega
theorem allT_word {sg : List Str} (h : ∀ c ∈ sg, c.length = 1) : ∀ i, ∀ w ∈ allT sg i, w.length ≤ i
  | 0, w, hw => by rw [List.mem_singleton.mp hw]; exact Nat.le_refl _
  | i + 1, w, hw => by
    obtain ⟨w0, h0, h1⟩ := List.mem_flatMap.mp (show w ∈ (allT sg i).flatMap fun w => sg.map (w ++ ·) from hw)
    obtain ⟨c, hc, rfl⟩ := List.mem_map.mp h1
    have := allT_word h i w0 h0
    have := h c hc
    rw [str_len]
    omega
theorem triedW_len {rs : List Rule} {row sg : List Str} (h : sg.length ≤ 4) : ∀ k, (triedW rs row sg k).length ≤ k * 4 ^ k
  | 0 => Nat.le_refl _
  | k + 1 => by
    have ih := triedW_len (rs := rs) (row := row) h k
    have h1 := allT_len h k
    have h2 := List.length_filter_le (fun w => decide (byLs rs (some row) w = some [])) (allT sg k)
    rw [triedW_snoc, List.length_append, Nat.pow_succ, Nat.add_mul]
    have h3 : k * 4 ^ k ≤ k * (4 ^ k * 4) := Nat.mul_le_mul_left _ (by omega)
    omega
theorem ssort_len (xs : List Str) : (ssort xs).length = xs.length := (ssort_perm xs).length_eq
theorem perm_refs {ys : List V} {ts : List Addr} (h : ys.Perm (ts.map V.ref)) : ∃ zs : List Addr, ys = zs.map V.ref ∧ zs.Perm ts := by
  have unR : V → Addr := fun v => match v with | .ref a => a | _ => 0
  obtain ⟨un, hun⟩ : ∃ un : V → Addr, ∀ a, un (.ref a) = a := ⟨fun v => match v with | .ref a => a | _ => 0, fun _ => rfl⟩
  refine ⟨ys.map un, ?_, ?_⟩
  · rw [List.map_map]
    have : ∀ y ∈ ys, (V.ref ∘ un) y = y := fun y hy => by
      obtain ⟨x, _, rfl⟩ := List.mem_map.mp (h.mem_iff.mp hy)
      show V.ref (un (.ref x)) = _
      rw [hun]
    exact (List.map_congr_left this).trans (List.map_id _) |>.symm
  · have h2 := h.map un
    rw [List.map_map] at h2
    have e : (un ∘ V.ref) = id := funext hun
    rwa [e, List.map_id] at h2
theorem paired_perm {α β : Type} {F : α → β → Prop} {xs ys : List α} (h : ys.Perm xs) : ∀ {zs : List β}, Paired F xs zs → ∃ us : List β, us.Perm zs ∧ Paired F ys us := by
  induction h with
  | nil => intro zs hp; exact ⟨zs, .refl _, hp⟩
  | cons x _ ih =>
    intro zs hp
    cases hp with
    | cons h1 h2 =>
      obtain ⟨us, p, q⟩ := ih h2
      exact ⟨_ :: us, p.cons _, .cons h1 q⟩
  | swap x y l =>
    intro zs hp
    cases hp with
    | cons h1 h2 => cases h2 with
      | cons h3 h4 => exact ⟨_, .swap _ _ _, .cons h3 (.cons h1 h4)⟩
  | trans _ _ ih1 ih2 =>
    intro zs hp
    obtain ⟨us, p, q⟩ := ih2 hp
    obtain ⟨vs, p2, q2⟩ := ih1 q
    exact ⟨vs, p2.trans p, q2⟩
theorem EndsR.perm {names : List Str} {rs qs : List Rule} (h : EndsR names rs) (p : rs.Perm qs) : EndsR names qs := fun x hx => by
  obtain ⟨v, d⟩ := h x hx
  exact ⟨v, d.more fun e he => ((p.map _).mem_iff (a := e)).mp he⟩
theorem PlainR.perm {rs qs : List Rule} (h : PlainR rs) (p : rs.Perm qs) : PlainR qs := fun n => (((rulesOf_perm p n).map (·.1)).nodup_iff).mp (h n)
end SG
/-! dicts whose keys are nested tuples -/
namespace SG
open PySem PySem.Spec PyProof.Rows L2
/-- an entry: the key, the tuple that it came as, the value -/
abbrev NEnt := NestedKey × Addr × V
abbrev REnt := NestedKey × Addr × Value
def EntR (x : NEnt) (y : REnt) : Prop := x.1 = y.1 ∧ x.2.1 = y.2.1 ∧ RelV x.2.2 y.2.2
def dictN (P : Program) (w : World) (d : Addr) (xs : List NEnt) : HO := .ext fun h => xs.length ≤ sizeLine ∧ (d == sysModules) = false ∧ (xs.map (·.1)).Nodup ∧ ∃ (ys : List REnt) (o : Obj) (es : Array DictEntry) (ep : Nat), Paired EntR xs ys ∧ h.get? d = some o ∧ o.ExactDict ∧ o.data = .dict es ep ∧ es.toList = ys.map (entryOfKey (nestedKind P w))
mutual
/-- the value is the key -/
inductive NK (H : Hp) : NestedKey → V → Prop
  | non : NK H .none .non
  | int (i : Int) : NK H (.num i) (.int i)
  | str (x : Str) : NK H (.text x) (.str x)
  | tup {a : Addr} {vs : List V} {ks : List NestedKey} : H a = some (.tup vs) → NKs H ks vs → NK H (.tup ks) (.ref a)
inductive NKs (H : Hp) : List NestedKey → List V → Prop
  | nil : NKs H [] []
  | cons {k : NestedKey} {v : V} {ks : List NestedKey} {vs : List V} : NK H k v → NKs H ks vs → NKs H (k :: ks) (v :: vs)
end
mutual
theorem nk_is {P : Program} {w : World} {H : Hp} {h : Heap} (ok : HOk P w H h) : ∀ (k : NestedKey) (v : V) (u : Value), NK H k v → RelV v u → NestedIs h k u
  | .none, _, u, .non, r => by
    obtain rfl : u = .none := r
    exact .none
  | .num i, _, u, .int _, r => by
    obtain ⟨t, rfl⟩ := r
    exact .int i t
  | .text x, _, u, .str _, r => by
    obtain ⟨t, rfl⟩ := r
    exact .text x t
  | .tup ks, _, u, .tup (a := a) (vs := vs) ha hs, r => by
    obtain rfl : u = Value.ref a := r
    obtain ⟨_, its, rv, o, e1, e2, n, e3⟩ := (show ObjOk P w H h a (.tup vs) from ok a _ ha)
    exact .tup e1 e2 e3 (nks_is ok ks vs its hs rv)
theorem nks_is {P : Program} {w : World} {H : Hp} {h : Heap} (ok : HOk P w H h) : ∀ (ks : List NestedKey) (vs : List V) (us : List Value), NKs H ks vs → Vals vs us → NestedAll h ks us
  | [], _, _, .nil, .nil => .nil
  | k :: ks, _, _, .cons h1 h2, .cons r t => .cons (nk_is ok k _ _ h1 r) (nks_is ok ks _ _ h2 t)
end
/-- the keys of a dict's entries stand -/
def KeysN (H : Hp) (xs : List NEnt) : Prop := ∀ x ∈ xs, NK H x.1 (.ref x.2.1) ∧ x.1.depth ≤ 8
theorem ents_of {P : Program} {w : World} {H : Hp} {h : Heap} (ok : HOk P w H h) : ∀ {xs : List NEnt} {ys : List REnt}, Paired EntR xs ys → KeysN H xs → ∀ y ∈ ys, (nestedKind P w).is h y.1 y.2.1
  | _, _, .nil, _, y, hy => by cases hy
  | x :: xs, y0 :: ys, .cons h1 h2, k, y, hy => by
    rcases List.mem_cons.mp hy with rfl | hy
    · obtain ⟨a, b⟩ := k x List.mem_cons_self
      obtain ⟨e1, e2, _⟩ := h1
      rw [← e1, ← e2]
      exact ⟨nk_is ok _ _ _ a rfl, b⟩
    · exact ents_of ok h2 (fun z hz => k z (List.mem_cons_of_mem _ hz)) y hy
theorem ents_keys : ∀ {xs : List NEnt} {ys : List REnt}, Paired EntR xs ys → xs.map (·.1) = ys.map (·.1)
  | _, _, .nil => rfl
  | _, _, .cons h t => by rw [List.map_cons, List.map_cons, h.1, ents_keys t]
def atN (xs : List NEnt) (k : NestedKey) : Option V := (xs.find? fun x => decide (x.1 = k)).map (·.2.2)
theorem ents_at (k : NestedKey) : ∀ {xs : List NEnt} {ys : List REnt}, Paired EntR xs ys → (atN xs k = none ∧ atKey ys k = none) ∨ ∃ v p, atN xs k = some v ∧ atKey ys k = some p ∧ RelV v p.2
  | _, _, .nil => .inl ⟨rfl, rfl⟩
  | x :: xs, y :: ys, .cons h t => by
    unfold atN atKey
    by_cases c : x.1 = k
    · have c2 : y.1 = k := h.1.symm.trans c
      refine .inr ⟨x.2.2, y.2, ?_, ?_, h.2.2⟩
      · rw [List.find?_cons_of_pos (by simpa using c)]; rfl
      · rw [List.find?_cons_of_pos (by simpa using c2)]; rfl
    · have c2 : ¬ y.1 = k := fun z => c (h.1.trans z)
      rw [List.find?_cons_of_neg (by simpa using c), List.find?_cons_of_neg (by simpa using c2)]
      exact ents_at k t
theorem dictN_of {P : Program} {w : World} {H : Hp} {h : Heap} (ok : HOk P w H h) {d : Addr} {xs : List NEnt} (e : H d = some (dictN P w d xs)) (k : KeysN H xs) : xs.length ≤ sizeLine ∧ (d == sysModules) = false ∧ ∃ ys : List REnt, Paired EntR xs ys ∧ h.DictOfH (nestedKind P w) d ys := by
  obtain ⟨⟨hz, hd, nd, ys, o, es, ep, hp, e1, e2, e3, e4⟩, _⟩ := (show ObjOk P w H h d (dictN P w d xs) from ok d _ e)
  exact ⟨hz, hd, ys, hp, o, es, ep, e1, e2, e3, e4, ents_of ok hp k, by rw [← ents_keys hp]; exact nd⟩
theorem dictN_ok {P : Program} {w : World} {H : Hp} {h : Heap} {d : Addr} {xs : List NEnt} {ys : List REnt} (hz : xs.length ≤ sizeLine) (hd : (d == sysModules) = false) (hp : Paired EntR xs ys) (e : h.DictOfH (nestedKind P w) d ys) : ObjOk P w H h d (dictN P w d xs) := by
  obtain ⟨o, es, ep, e1, e2, e3, e4, _, e6⟩ := e
  exact ⟨⟨hz, hd, by rw [ents_keys hp]; exact e6, ys, o, es, ep, hp, e1, e2, e3, e4⟩, ⟨o, e1⟩, fun h1 h2 ⟨a1, a2, a3, ys, o, es, ep, b1, b2, b3, b4, b5⟩ k => ⟨a1, a2, a3, ys, o, es, ep, b1, k _ b2, b3, b4, b5⟩⟩
def tDNewN (P : Program) (w : World) : TE := fun _ H Q => ∀ p, H p = none → Q (.ref p) (upd H p (dictN P w p []))
section
variable {X : Cx} {pos : Pos}
theorem pe_dnewN : PE X (.Dict [] [] pos) (tDNewN X.prog X.w) := by
  refine ⟨fun pins s σ H Q I told => ?_⟩
  have big : (s.heap.objs.size == sysModules) = false := beq_eq_false_iff_ne.mpr (Ne.symm (Nat.ne_of_lt I.big))
  refine wpAny_Dict_empty ⟨.ref s.heap.objs.size, _, I.laid (a := s.heap.objs.size) (o := dictN X.prog X.w s.heap.objs.size []) (t' := s.toks) ?_ (Nat.le_refl _) ?_, rfl, told _ (I.hok.fresh (Nat.le_refl _))⟩
  · exact fun _ _ q => Heap.get?_push_of_some _ q
  · exact dictN_ok (Nat.zero_le _) big .nil (Heap.DictOfH.new s.heap)
def rInN (P : Program) (w : World) (b : Bool) : R2 := fun x y H Q => ∃ (k : NestedKey) (a d : Addr) (xs : List NEnt), x = .ref a ∧ y = .ref d ∧ NK H k (.ref a) ∧ k.depth ≤ 8 ∧ H d = some (dictN P w d xs) ∧ KeysN H xs ∧ Q (.bl (xor b (atN xs k).isSome)) H
theorem isSome_ents {xs : List NEnt} {ys : List REnt} {k : NestedKey} (hp : Paired EntR xs ys) : (atKey ys k).isSome = (atN xs k).isSome := by
  rcases ents_at k hp with ⟨a, b⟩ | ⟨v, p, a, b, _⟩ <;> rw [a, b] <;> rfl
theorem op_inN (hu : X.A.units + 64 < cLine) : OpR X (compareOp .In) (rInN X.prog X.w false) := by
  intro pins s σ H x y v u Q I rx ry told
  obtain ⟨k, a, d, xs, rfl, rfl, hk, hd, e, hks, q⟩ := told
  obtain rfl : v = Value.ref a := rx
  obtain rfl : u = Value.ref d := ry
  obtain ⟨hz, hsys, ys, hp, dd⟩ := dictN_of I.hok e hks
  have room : (nestedKind X.prog X.w).room X.A.in1 := by show X.A.units + 1 + 8 < cLine; omega
  refine wpAny_in_heap room ⟨nk_is I.hok _ _ _ hk rfl, hd⟩ hsys dd ⟨.bl _, H, I.tok _, ?_, q⟩
  rw [isSome_ents hp, Bool.false_xor]
  rfl
theorem op_notInN (hu : X.A.units + 64 < cLine) : OpR X (compareOp .NotIn) (rInN X.prog X.w true) := by
  intro pins s σ H x y v u Q I rx ry told
  obtain ⟨k, a, d, xs, rfl, rfl, hk, hd, e, hks, q⟩ := told
  obtain rfl : v = Value.ref a := rx
  obtain rfl : u = Value.ref d := ry
  obtain ⟨hz, hsys, ys, hp, dd⟩ := dictN_of I.hok e hks
  have room : (nestedKind X.prog X.w).room X.A.in1 := by show X.A.units + 1 + 8 < cLine; omega
  show wpAny _ _ (do return Value.bool (!(← contains (.ref d) (.ref a)))) _ _ s
  refine wpAny_bind (wpAny_contains_heap room ⟨nk_is I.hok _ _ _ hk rfl, hd⟩ hsys dd (wpAny_pure ⟨.bl _, H, I.tok _, ?_, q⟩))
  rw [isSome_ents hp, Bool.true_xor]
  rfl
def rIxN (P : Program) (w : World) : R2 := fun x y H Q => ∃ (k : NestedKey) (a d : Addr) (xs : List NEnt) (v : V), x = .ref d ∧ y = .ref a ∧ NK H k (.ref a) ∧ k.depth ≤ 8 ∧ H d = some (dictN P w d xs) ∧ KeysN H xs ∧ atN xs k = some v ∧ Q v H
theorem ix_dictN (hu : X.A.units + 64 < cLine) : IxR X (rIxN X.prog X.w) := by
  intro value slice pins s σ H x y v u Q I rx ry told hs
  obtain ⟨k, a, d, xs, z, rfl, rfl, hk, hd, e, hks, hz, q⟩ := told
  obtain rfl : v = Value.ref d := rx
  obtain rfl : u = Value.ref a := ry
  obtain ⟨_, hsys, ys, hp, dd⟩ := dictN_of I.hok e hks
  have room : (nestedKind X.prog X.w).room X.A.in1 := by show X.A.units + 1 + 8 < cLine; omega
  rcases ents_at k hp with ⟨b, _⟩ | ⟨z2, p, b, c, rz⟩
  · rw [b] at hz; cases hz
  · rw [b] at hz
    cases hz
    exact subscriptTail_builtinR (x := p.2) dd.typeIs slot_dict_getitem.lookup (wpAny_getItem_heap room ⟨nk_is I.hok _ _ _ hk rfl, hd⟩ dd c ⟨rfl, _, H, I.tok _, rz, q⟩) hs
def rSetN (P : Program) (w : World) : V → V → V → Hp → (Hp → Prop) → Prop := fun o i v H Q => ∃ (k : NestedKey) (a d : Addr) (xs : List NEnt), o = .ref d ∧ i = .ref a ∧ NK H k (.ref a) ∧ k.depth ≤ 8 ∧ H d = some (dictN P w d xs) ∧ KeysN H xs ∧ atN xs k = none ∧ xs.length < sizeLine ∧ Q (upd H d (dictN P w d (xs ++ [(k, a, v)])))
theorem set_dictN (hu : X.A.units + 64 < cLine) : PSet X (rSetN X.prog X.w) := by
  intro pins s σ H o i v ov iv u Q I ro ri rv told
  obtain ⟨k, a, d, xs, rfl, rfl, hk, hd, e, hks, hn, hl, q⟩ := told
  obtain rfl : ov = Value.ref d := ro
  obtain rfl : iv = Value.ref a := ri
  obtain ⟨hz, hsys, ys, hp, dd⟩ := dictN_of I.hok e hks
  have room : (nestedKind X.prog X.w).room X.A.in1 := by show X.A.units + 1 + 8 < cLine; omega
  have hyn : atKey ys k = none := by
    rcases ents_at k hp with ⟨_, b⟩ | ⟨z, p, b, c, _⟩
    · exact b
    · rw [b] at hn; cases hn
  have hyl : ys.length ≤ sizeLine := by rw [← paired_len hp]; exact hz
  refine wpAny_setItem_heap (hsz := hyl) room ⟨nk_is I.hok _ _ _ hk rfl, hd⟩ dd fun h' hm hs => ?_
  rw [storedH_new hyn] at hm
  have hp2 : Paired EntR (xs ++ [(k, a, v)]) (ys ++ [(k, a, u)]) := paired_app (F := EntR) ⟨rfl, rfl, rv⟩ hp
  have there : ∃ o, h'.get? d = some o := by
    obtain ⟨o, es, ep, e1, _⟩ := hm
    exact ⟨o, e1⟩
  refine ⟨_, I.write (x := d) (e := d) (o := dictN X.prog X.w d (xs ++ [(k, a, v)])) (by rw [e]; exact True.intro) (.inl rfl) (fun b o hb ho => (hs.2 b hb).trans ho) there (dictN_ok ?_ hsys hp2 hm), q⟩
  rw [List.length_append]
  exact hl
end
/-! rows as keys -/
def kRow (r : List Str) : NestedKey := .tup (r.map NestedKey.text)
theorem nks_strs (H : Hp) : ∀ r : List Str, NKs H (r.map NestedKey.text) (r.map V.str)
  | [] => .nil
  | x :: r => .cons (.str x) (nks_strs H r)
theorem nk_row {H : Hp} {t : Addr} {r : List Str} (h : H t = some (.tup (r.map V.str))) : NK H (kRow r) (.ref t) := .tup h (nks_strs H r)
theorem depth_texts : ∀ r : List Str, NestedKey.depthAll (r.map NestedKey.text) = 0
  | [] => rfl
  | x :: r => by rw [List.map_cons, NestedKey.depthAll, depth_texts r]; rfl
theorem depth_row (r : List Str) : (kRow r).depth = 1 := by
  unfold kRow
  rw [NestedKey.depth, depth_texts]
theorem kRow_inj {a b : List Str} (h : kRow a = kRow b) : a = b := by
  unfold kRow at h
  have h := NestedKey.tup.inj h
  exact (List.map_inj_right fun x y q => NestedKey.text.inj q).mp h
mutual
theorem NK.same {H H' : Hp} (e : Same H H') : ∀ {k : NestedKey} {v : V}, NK H k v → NK H' k v
  | _, _, .non => .non
  | _, _, .int i => .int i
  | _, _, .str x => .str x
  | _, _, .tup h1 h2 => .tup (e _ _ h1) (NKs.same e h2)
theorem NKs.same {H H' : Hp} (e : Same H H') : ∀ {ks : List NestedKey} {vs : List V}, NKs H ks vs → NKs H' ks vs
  | _, _, .nil => .nil
  | _, _, .cons h1 h2 => .cons (NK.same e h1) (NKs.same e h2)
end
mutual
/-- a dict is written: the keys stay -/
theorem NK.mut {P : Program} {w : World} {H : Hp} {d : Addr} {xs : List NEnt} (hd : H d = some (dictN P w d xs)) (u : HO) : ∀ {k : NestedKey} {v : V}, NK H k v → NK (upd H d u) k v
  | _, _, .non => .non
  | _, _, .int i => .int i
  | _, _, .str x => .str x
  | _, _, .tup h1 h2 => .tup (by rw [upd_ne (fun z => by rw [z, hd] at h1; unfold dictN at h1; cases h1)]; exact h1) (NKs.mut hd u h2)
theorem NKs.mut {P : Program} {w : World} {H : Hp} {d : Addr} {xs : List NEnt} (hd : H d = some (dictN P w d xs)) (u : HO) : ∀ {ks : List NestedKey} {vs : List V}, NKs H ks vs → NKs (upd H d u) ks vs
  | _, _, .nil => .nil
  | _, _, .cons h1 h2 => .cons (NK.mut hd u h1) (NKs.mut hd u h2)
end
theorem KeysN.same {H H' : Hp} {xs : List NEnt} (h : KeysN H xs) (e : Same H H') : KeysN H' xs := fun x hx => ⟨(h x hx).1.same e, (h x hx).2⟩
theorem KeysN.put {P : Program} {w : World} {H : Hp} {d a : Addr} {xs : List NEnt} {k : NestedKey} {v : V} {u : HO} (h : KeysN H xs) (hd : H d = some (dictN P w d xs)) (hk : NK H k (.ref a)) (h8 : k.depth ≤ 8) : KeysN (upd H d u) (xs ++ [(k, a, v)]) := fun x hx => by
  rcases List.mem_append.mp hx with hx | hx
  · exact ⟨(h x hx).1.mut hd u, (h x hx).2⟩
  · rw [List.mem_singleton.mp hx]
    exact ⟨hk.mut hd u, h8⟩
mutual
theorem NK.tupS {H H' : Hp} (e : ∀ t xs, H t = some (.tup xs) → H' t = some (.tup xs)) : ∀ {k : NestedKey} {v : V}, NK H k v → NK H' k v
  | _, _, .non => .non
  | _, _, .int i => .int i
  | _, _, .str x => .str x
  | _, _, .tup h1 h2 => .tup (e _ _ h1) (NKs.tupS e h2)
theorem NKs.tupS {H H' : Hp} (e : ∀ t xs, H t = some (.tup xs) → H' t = some (.tup xs)) : ∀ {ks : List NestedKey} {vs : List V}, NKs H ks vs → NKs H' ks vs
  | _, _, .nil => .nil
  | _, _, .cons h1 h2 => .cons (NK.tupS e h1) (NKs.tupS e h2)
end
theorem NK.mutT {H : Hp} {D : Addr} (hD : ∀ t xs, H t = some (.tup xs) → t ≠ D) (u : HO) : ∀ {k : NestedKey} {v : V}, NK H k v → NK (upd H D u) k v := by
  intro k v h
  have e : ∀ t xs, H t = some (.tup xs) → (upd H D u) t = some (.tup xs) := fun t xs h => by rw [upd_ne (hD t xs h)]; exact h
  exact NK.tupS e h
theorem NKs.mutT {H : Hp} {D : Addr} (hD : ∀ t xs, H t = some (.tup xs) → t ≠ D) (u : HO) {ks : List NestedKey} {vs : List V} (h : NKs H ks vs) : NKs (upd H D u) ks vs :=
  NKs.tupS (fun t xs h => by rw [upd_ne (hD t xs h)]; exact h) h
theorem NKs.app {H : Hp} : ∀ {ks ks2 : List NestedKey} {vs vs2 : List V}, NKs H ks vs → NKs H ks2 vs2 → NKs H (ks ++ ks2) (vs ++ vs2)
  | _, _, _, _, .nil, h => h
  | _, _, _, _, .cons h1 h2, h => .cons h1 (NKs.app h2 h)
def rTupS (K : PySem.W.Frag) : List V → Hp → VK → Prop := fun xs H Q => ∃ p ys, xs = [.ref p] ∧ ((SqL K H p ys ∧ ∀ l, H l = none → Q (.ref l) (upd H l (.tup ys))) ∨ (SqT K H p ys ∧ Q (.ref p) H))
end SG
/-! sorted(d), d a dict of texts; pairs of rows, words that part them -/
namespace SG
open PySem PySem.Spec PyProof.Rows L2
section
variable {X : Cx}
def rSortedD : List V → Hp → VK → Prop := fun vs H Q => ∃ (a : Addr) (kvs : List (Key × V)) (ks : List Str), vs = [V.ref a] ∧ H a = some (.dK kvs) ∧ kvs.map (·.1) = ks.map Sum.inr ∧ ks.length < 64 ∧ ∀ p, H p = none → Q (.ref p) (upd H p (.lst ((ssort ks).map V.str)))
theorem cr_sortedD (hc : X.calm = true) : CallR X (.builtin "sorted") rSortedD := by
  intro pins s σ H vs us Q I r h
  obtain ⟨d, kvs, ks, rfl, hd, hks, h64, k⟩ := h
  rw [Vals.ref1 r]
  obtain ⟨z, lo, vs, rel, dd⟩ := dk_of I.hok hd
  obtain ⟨ep, hat⟩ := dd.dictAt
  have hkeys : vs.map (·.1) = ks.map Sum.inr := rel.keys.symm.trans hks
  have hl : vs.length = ks.length := by
    have e := congrArg List.length hkeys
    rw [List.length_map, List.length_map] at e
    exact e
  have h16 : vs.length ≤ sizeLine := by rw [hl, sizeLine_eq]; omega
  refine Calls.call_function_entry PyProof.Rows.kind_sorted PyProof.Rows.plain_sorted PyProof.Rows.entry_sorted (PyProof.Rows.args_sorted1 _) ?_
  unfold Builtin.«sorted»
  refine wpAny_bind (m := checkCount "sorted" 1 1 _) (wpAny_pure ?_)
  refine wpAny_bind (PySem.W.kdu_collect (A := X.A.in1) (PySem.W.kdl_dict (knd := mixKind X.prog X.w) (kvs := vs) (ep := ep) lo) (I.ok.hd hc) hat h16 fun h' tk acc hk hacc => ?_)
  have hal : acc.toList.length = ks.length := by rw [Array.length_toList, hacc.1, hl]
  have hS : StrsAre acc.toList ks := strs_at hal fun j v e => by
    obtain ⟨k, x, e1, e2⟩ := hacc.2 j v (by rw [← Array.getElem?_toList]; exact e)
    have e3 : (vs.map (·.1))[j]? = some k := by rw [List.getElem?_map, e1]; all_goals rfl
    rw [hkeys, List.getElem?_map] at e3
    cases e4 : ks[j]? with
    | none => rw [e4] at e3; cases e3
    | some y =>
      rw [e4] at e3
      have e5 : Sum.inr y = k := Option.some.inj e3
      subst e5
      obtain ⟨t, ev⟩ := Value.isStrOf_shape (x := y) (v := v) e2
      exact ⟨y, t, rfl, ev⟩
  have I3 : Inv X pins σ H { s with heap := h', toks := tk } := I.kept hk
  refine wpAny_bind (wpAny_newList ?_ (by rw [hal, sizeLine_eq]; omega))
  have hoL : (h'.push (seqObj "list" acc.toList.toArray 0)).get? h'.objs.size = some (seqObj "list" acc.toList.toArray 0) := Heap.get?_push_size _ rfl
  show wpAny _ _ _ _ _ { s with heap := h'.push (seqObj "list" acc.toList.toArray 0), toks := tk }
  refine wpAny_bind (wpAny_holding (wpAny_call_entry PyProof.Rows.slot_list_sort ⟨_, hoL, rfl⟩ PyProof.Rows.entry_list_sort
    (list_sort_treeK strKind_oneLt (s := { s with heap := h'.push (seqObj "list" acc.toList.toArray 0), toks := tk }) hoL hS.keysOf (fun v₁ v₂ rest e => keyKind_strs (by rw [← e]; exact hS)) (by rw [hal]; exact h64) fun st' hp hs => ⟨_, rfl, ?_⟩)
    (PyProof.Rows.args_list_sort _)))
  obtain ⟨ys, g1, g2, g3⟩ := sorted_out_str hS hp hs
  obtain ⟨e', he'⟩ := PyProof.Rows.sortedHeap_at (vs := acc.toList) (out := (arrOf st').map (·.2)) hoL
  have hlen : (ys.map V.str).length ≤ sizeLine := by
    rw [List.length_map, g2.length_eq]
    exact Nat.le_trans (Nat.le_of_lt h64) (by decide)
  refine wpAny_pure ⟨_, rfl, .ref h'.objs.size, upd H h'.objs.size (.lst (ys.map V.str)), I3.laid (t' := tk) (fun b u e => ?_) (Nat.le_refl _)
    (show ObjOk X.prog X.w _ _ _ (.lst (ys.map V.str)) from ⟨hlen, ((arrOf st').map (·.2)).toList, e', vals_of_strs g1, by rw [Array.toArray_toList]; exact he'⟩), rfl, by rw [sortedS_ssort g3 g2]; exact k _ (I3.hok.fresh (Nat.le_refl _))⟩
  have hb : b < h'.objs.size := Heap.lt_size e
  rw [PyProof.Rows.sortedHeap_old (Nat.ne_of_lt hb) (by rw [size_push']; exact Nat.lt_succ_of_lt hb)]
  exact Heap.get?_push_of_some _ e
end
/-! ### keys, each once -/
theorem once1_mem {l : List Str} {x k : Str} : k ∈ once1 l x ↔ k ∈ l ∨ k = x := by
  unfold once1
  split
  · rename_i h
    rw [List.any_eq_true] at h
    obtain ⟨y, hy, e⟩ := h
    have e : y = x := by simpa using e
    constructor
    · exact .inl
    · rintro (h | rfl)
      · exact h
      · exact e ▸ hy
  · rw [List.mem_append, List.mem_singleton]
theorem once_memL (xs : List Str) (k : Str) : k ∈ once xs ↔ k ∈ xs := by
  have g : ∀ (xs l : List Str), k ∈ xs.foldl once1 l ↔ k ∈ l ∨ k ∈ xs := fun xs => by
    induction xs with
    | nil => intro l; simp
    | cons x xs ih =>
      intro l
      rw [List.foldl_cons, ih, once1_mem, List.mem_cons, or_assoc]
  unfold once
  rw [g]
  simp
theorem once_nd (xs : List Str) : (once xs).Nodup := by
  have g : ∀ (xs l : List Str), l.Nodup → (xs.foldl once1 l).Nodup := fun xs => by
    induction xs with
    | nil => intro l h; exact h
    | cons x xs ih =>
      intro l h
      rw [List.foldl_cons]
      refine ih _ ?_
      unfold once1
      split
      · exact h
      · rename_i c
        rw [List.nodup_append]
        refine ⟨h, by simp, fun a ha b hb e => c ?_⟩
        rw [List.mem_singleton.mp hb] at e
        rw [List.any_eq_true]
        exact ⟨a, ha, by rw [e]; simp⟩
  exact g xs [] List.nodup_nil
def kvsT (ks : List Str) : List (Key × V) := ks.map fun c => ((Sum.inr c : Key), V.bl true)
theorem kvsT_put (ks : List Str) (c : Str) : putK (kvsT ks) (Sum.inr c : Key) (.bl true) = kvsT (once1 ks c) := by
  unfold once1
  by_cases h : ks.any (· == c) = true
  · rw [if_pos h]
    have ha : ((kvsT ks).any fun kv => decide (kv.1 = (Sum.inr c : Key))) = true := by
      rw [List.any_eq_true] at h ⊢
      obtain ⟨y, hy, e⟩ := h
      have e : y = c := by simpa using e
      exact ⟨_, List.mem_map_of_mem hy, by rw [e]; simp⟩
    unfold putK
    rw [if_pos ha]
    unfold kvsT
    rw [List.map_map]
    refine List.map_congr_left fun x _ => ?_
    simp only [Function.comp]
    split <;> rfl
  · rw [if_neg h]
    have e : valV (kvsT ks) (Sum.inr c : Key) = none := by
      unfold valV kvsT
      rw [Option.map_eq_none_iff, List.find?_eq_none]
      intro x hx hc
      obtain ⟨y, hy, rfl⟩ := List.mem_map.mp hx
      have e2 : y = c := Sum.inr.inj (of_decide_eq_true hc)
      exact h (List.any_eq_true.mpr ⟨y, hy, by rw [e2]; simp⟩)
    rw [putK_new _ e]
    unfold kvsT
    rw [List.map_append]
    rfl
theorem kvsT_keys (ks : List Str) : (kvsT ks).map (·.1) = ks.map Sum.inr := by
  unfold kvsT
  rw [List.map_map]
  rfl
/-! ### pairs -/
abbrev PairR := Row? × Row?
abbrev EntP := Str × PairR
def stepP (rs : List Rule) (p : PairR) (c : Str) : PairR := (stepL rs p.1 c, stepL rs p.2 c)
def stepsP (rs : List Rule) (p : PairR) (c : Str) : Bool := decide (stepP rs p c ≠ (none, none))
def nextP (rs : List Rule) (sg : List Str) (e : EntP) : List EntP := (sg.filter (stepsP rs e.2)).map fun c => (e.1 ++ c, stepP rs e.2 c)
def partsP (p : PairR) : Bool := decide (p.1 = some []) != decide (p.2 = some [])
def addP (f : List EntP) (e : EntP) : List EntP := if e.2 ∈ f.map (·.2) then f else f ++ [e]
def layF (rs : List Rule) (sg : List Str) (p : PairR) : Nat → List EntP
  | 0 => [("", p)]
  | i + 1 => (layF rs sg p i).flatMap (nextP rs sg)
def neP (e : EntP) : Bool := decide (e.2.1 ≠ e.2.2)
def behindP (rs : List Rule) (sg : List Str) (X : List EntP) : List EntP := (X.flatMap (nextP rs sg)).foldl addP []
def layQ (rs : List Rule) (sg : List Str) (p : PairR) : Nat → List EntP
  | 0 => [("", p)]
  | i + 1 => behindP rs sg ((layQ rs sg p i).filter neP)
def firstL (lay : Nat → List EntP) (k : Nat) : Option Str := (List.range k).findSome? fun i => ((lay i).find? fun e => partsP e.2).map (·.1)
theorem firstL_snoc (lay : Nat → List EntP) (k : Nat) : firstL lay (k + 1) = (firstL lay k).or (((lay k).find? fun e => partsP e.2).map (·.1)) := by
  unfold firstL
  rw [List.range_succ, List.findSome?_append, List.findSome?_singleton]
theorem find_some {α β : Type} (f : α → Option β) : ∀ l : List α, l.findSome? f = (l.find? fun a => (f a).isSome).bind f
  | [] => rfl
  | a :: l => by
    rw [List.findSome?_cons, List.find?_cons]
    cases e : f a with
    | none => simp only [Option.isSome_none]; exact find_some f l
    | some b => simp [e]
theorem find_flat {α β : Type} (p : β → Bool) (g : α → List β) : ∀ l : List α, (l.flatMap g).find? p = l.findSome? fun a => (g a).find? p
  | [] => rfl
  | a :: l => by
    rw [List.flatMap_cons, List.find?_append, List.findSome?_cons, find_flat p g l]
    cases (g a).find? p <;> rfl
theorem find_add (q : PairR → Bool) : ∀ (l f : List EntP), (l.foldl addP f).find? (fun e => q e.2) = (f ++ l).find? fun e => q e.2
  | [], f => by rw [List.append_nil]; rfl
  | e :: l, f => by
    rw [List.foldl_cons, find_add q l]
    unfold addP
    split
    · rename_i h
      rw [List.find?_append, List.find?_append]
      cases hf : f.find? fun e => q e.2 with
      | some x => rfl
      | none =>
        rw [List.find?_eq_none] at hf
        obtain ⟨y, hy, e1⟩ := List.mem_map.mp h
        have h2 := hf y hy
        rw [e1] at h2
        rw [List.find?_cons_of_neg (p := fun e : EntP => q e.2) h2]
    · rw [List.append_assoc]
      rfl
theorem lay_same (rs : List Rule) (sg : List Str) (p : PairR) : ∀ (i : Nat) (q : PairR → Bool), (∀ x, q (x, x) = false) → (layQ rs sg p i).find? (fun e => q e.2) = (layF rs sg p i).find? fun e => q e.2
  | 0, _, _ => rfl
  | i + 1, q, hq => by
    show (((layQ rs sg p i).filter neP).flatMap (nextP rs sg) |>.foldl addP []).find? _ = ((layF rs sg p i).flatMap (nextP rs sg)).find? _
    rw [find_add, List.nil_append, find_flat, find_flat, find_some, find_some]
    let r : PairR → Bool := fun x => (sg.filter (stepsP rs x)).any fun c => q (stepP rs x c)
    have hr : ∀ e : EntP, ((nextP rs sg e).find? fun e => q e.2).isSome = r e.2 := fun e => by
      have hb : ∀ b c : Bool, (b = true ↔ c = true) → b = c := fun b c h => by
        cases b <;> cases c <;> simp at h ⊢
      refine hb _ _ ?_
      rw [List.find?_isSome]
      unfold nextP
      have : (∃ x, x ∈ (sg.filter (stepsP rs e.2)).map (fun c => (e.1 ++ c, stepP rs e.2 c)) ∧ q x.2 = true) ↔ r e.2 = true := by
        show _ ↔ ((sg.filter (stepsP rs e.2)).any fun c => q (stepP rs e.2 c)) = true
        rw [List.any_eq_true]
        constructor
        · rintro ⟨x, hx, h⟩
          obtain ⟨c, hc, rfl⟩ := List.mem_map.mp hx
          exact ⟨c, hc, h⟩
        · rintro ⟨c, hc, h⟩
          exact ⟨_, List.mem_map_of_mem hc, h⟩
      exact this
    have hr0 : ∀ x, r (x, x) = false := fun x => by
      show ((sg.filter (stepsP rs (x, x))).any fun c => q (stepP rs (x, x) c)) = false
      rw [List.any_eq_false]
      intro c _
      unfold stepP
      rw [hq]
      exact Bool.false_ne_true
    have e1 : (fun e : EntP => ((nextP rs sg e).find? fun e => q e.2).isSome) = fun e => r e.2 := funext hr
    rw [e1]
    have e2 : ((layQ rs sg p i).filter neP).find? (fun e => r e.2) = (layQ rs sg p i).find? fun e => r e.2 := by
      rw [List.find?_filter]
      congr 1
      funext e
      by_cases c : neP e = true
      · simp [c]
      · have h1 : e.2.1 = e.2.2 := by unfold neP at c; simpa using c
        have h2 : r e.2 = false := by
          have : e.2 = (e.2.1, e.2.1) := by rw [Prod.ext_iff]; exact ⟨rfl, h1.symm⟩
          rw [this]; exact hr0 _
        simp [c, h2]
    rw [e2, lay_same rs sg p i r hr0]
theorem first_same (rs : List Rule) (sg : List Str) (p : PairR) (k : Nat) : firstL (layQ rs sg p) k = firstL (layF rs sg p) k := by
  unfold firstL
  congr 1
  funext i
  rw [lay_same rs sg p i partsP fun x => by unfold partsP; simp]
/-! bounds -/
theorem nextP_len (rs : List Rule) (sg : List Str) (e : EntP) : (nextP rs sg e).length ≤ sg.length := by
  unfold nextP
  rw [List.length_map]
  exact List.length_filter_le _ _
theorem flat_lenP {α β : Type} {g : α → List β} {k : Nat} (h : ∀ a, (g a).length ≤ k) : ∀ l : List α, (l.flatMap g).length ≤ l.length * k
  | [] => Nat.zero_le _
  | a :: l => by
    have := h a
    have := flat_lenP h l
    rw [List.flatMap_cons, List.length_append, List.length_cons, Nat.add_mul]
    omega
theorem add_len : ∀ (l f : List EntP), (l.foldl addP f).length ≤ f.length + l.length
  | [], f => Nat.le_refl _
  | e :: l, f => by
    have := add_len l (addP f e)
    have h : (addP f e).length ≤ f.length + 1 := by
      unfold addP
      split
      · omega
      · rw [List.length_append, List.length_singleton]; omega
    rw [List.foldl_cons, List.length_cons]
    omega
theorem add_mem : ∀ (l f : List EntP) (e : EntP), e ∈ l.foldl addP f → e ∈ f ∨ e ∈ l
  | [], f, e, h => .inl h
  | x :: l, f, e, h => by
    rcases add_mem l _ e h with h | h
    · unfold addP at h
      split at h
      · exact .inl h
      · rcases List.mem_append.mp h with h | h
        · exact .inl h
        · rw [List.mem_singleton.mp h]; exact .inr List.mem_cons_self
    · exact .inr (List.mem_cons_of_mem _ h)
def EntOk (names : List Str) (k i : Nat) (e : EntP) : Prop := e.1.length ≤ i ∧ RowK names (k + 3 * i) e.2.1 ∧ RowK names (k + 3 * i) e.2.2
theorem RowK.step3 {names : List Str} {rs : List Rule} {k : Nat} {o : Row?} (h : RowK names k o) (hg : GoodR names rs) (c : Str) : RowK names (k + 3) (stepL rs o c) := fun r e => by
  refine ⟨stepL_in (fun r hr => (hg.ok r hr).2.2.2) (fun r e => (h r e).1) r e, ?_⟩
  unfold stepL at e
  match o, h with
  | none, _ => cases e
  | some [], _ => cases e
  | some (n :: t), h =>
    simp only at e
    cases h1 : byL rs n c with
    | none => rw [h1] at e; cases e
    | some p =>
      rw [h1] at e
      have e := Option.some.inj e
      have hp := (hg.ok _ (mem_rulesOf.mp (List.mem_of_find?_eq_some h1))).2.2.1
      have ht := (h _ rfl).2
      simp at hp ht
      rw [← e, List.length_append]
      omega
theorem nextP_ok {names : List Str} {rs : List Rule} {sg : List Str} {k i : Nat} {e : EntP} (hg : GoodR names rs) (h1 : ∀ c ∈ sg, c.length = 1) (h : EntOk names k i e) : ∀ x ∈ nextP rs sg e, EntOk names k (i + 1) x := fun x hx => by
  obtain ⟨c, hc, rfl⟩ := List.mem_map.mp hx
  obtain ⟨a, b, d⟩ := h
  have := h1 c (List.mem_filter.mp hc).1
  exact ⟨by rw [str_len]; omega, b.step3 hg c, d.step3 hg c⟩
theorem layF_ok {names : List Str} {rs : List Rule} {sg : List Str} {k : Nat} {p : PairR} (hg : GoodR names rs) (h1 : ∀ c ∈ sg, c.length = 1) (hp : RowK names k p.1 ∧ RowK names k p.2) : ∀ i, ∀ e ∈ layF rs sg p i, EntOk names k i e
  | 0, e, h => by rw [List.mem_singleton.mp h]; exact ⟨Nat.le_refl _, hp.1, hp.2⟩
  | i + 1, e, h => by
    obtain ⟨x, hx, h2⟩ := List.mem_flatMap.mp (show e ∈ (layF rs sg p i).flatMap (nextP rs sg) from h)
    exact nextP_ok hg h1 (layF_ok hg h1 hp i x hx) e h2
theorem layQ_ok {names : List Str} {rs : List Rule} {sg : List Str} {k : Nat} {p : PairR} (hg : GoodR names rs) (h1 : ∀ c ∈ sg, c.length = 1) (hp : RowK names k p.1 ∧ RowK names k p.2) : ∀ i, ∀ e ∈ layQ rs sg p i, EntOk names k i e
  | 0, e, h => by rw [List.mem_singleton.mp h]; exact ⟨Nat.le_refl _, hp.1, hp.2⟩
  | i + 1, e, h => by
    rcases add_mem _ _ e (show e ∈ (((layQ rs sg p i).filter neP).flatMap (nextP rs sg)).foldl addP [] from h) with h | h
    · cases h
    · obtain ⟨x, hx, h2⟩ := List.mem_flatMap.mp h
      exact nextP_ok hg h1 (layQ_ok hg h1 hp i x (List.mem_filter.mp hx).1) e h2
theorem layF_len (rs : List Rule) (sg : List Str) (p : PairR) : ∀ i, (layF rs sg p i).length ≤ sg.length ^ i
  | 0 => Nat.le_refl _
  | i + 1 => by
    have h := flat_lenP (nextP_len rs sg) (layF rs sg p i)
    rw [Nat.pow_succ]
    exact Nat.le_trans h (Nat.mul_le_mul_right _ (layF_len rs sg p i))
theorem layQ_len (rs : List Rule) (sg : List Str) (p : PairR) : ∀ i, (layQ rs sg p i).length ≤ sg.length ^ i
  | 0 => Nat.le_refl _
  | i + 1 => by
    have h := flat_lenP (nextP_len rs sg) ((layQ rs sg p i).filter neP)
    have h2 := add_len (((layQ rs sg p i).filter neP).flatMap (nextP rs sg)) []
    have h3 := List.length_filter_le neP (layQ rs sg p i)
    have h4 := layQ_len rs sg p i
    have h5 := Nat.mul_le_mul_right sg.length (Nat.le_trans h3 h4)
    rw [Nat.pow_succ]
    show (((layQ rs sg p i).filter neP).flatMap (nextP rs sg) |>.foldl addP []).length ≤ _
    rw [List.length_nil] at h2
    omega
/-! letters of both -/
def headsL (rs : List Rule) : Row? → List Str
  | some (n :: _) => (rulesOf rs n).map (·.1)
  | _ => []
theorem steps_iff {rs : List Rule} {o : Row?} {c : Str} : stepL rs o c ≠ none ↔ c ∈ headsL rs o := by
  match o with
  | none => simp [stepL, headsL]
  | some [] => simp [stepL, headsL]
  | some (n :: t) =>
    show (byL rs n c).map _ ≠ none ↔ c ∈ (rulesOf rs n).map (·.1)
    rw [ne_eq, Option.map_eq_none_iff]
    unfold byL
    rw [List.find?_eq_none, List.mem_map]
    constructor
    · intro h
      refine Classical.byContradiction fun g => h fun x hx e => g ⟨x, hx, by simpa using e⟩
    · rintro ⟨x, hx, rfl⟩ h
      exact h x hx (by simp)
def lettersP (rs : List Rule) (p : PairR) : List Str := ssort (once (headsL rs p.1 ++ headsL rs p.2))
theorem ssort_nd {xs : List Str} (h : xs.Nodup) : (ssort xs).Nodup := (ssort_perm xs).nodup_iff.mpr h
theorem letters_filter {rs : List Rule} {signs : List Str} (hs : ∀ r ∈ rs, r.2.1 ∈ signs) (nd : signs.Nodup) (p : PairR) : lettersP rs p = (ssort signs).filter (stepsP rs p) := by
  have e : ∀ c, c ∈ headsL rs p.1 ++ headsL rs p.2 ↔ stepsP rs p c = true := fun c => by
    rw [List.mem_append, ← steps_iff, ← steps_iff]
    unfold stepsP stepP
    rw [decide_eq_true_iff, ne_eq, ne_eq, ne_eq, Prod.mk.injEq]
    exact Decidable.not_and_iff_or_not.symm
  have hsub : ∀ c o, c ∈ headsL rs o → c ∈ signs := fun c o h => by
    match o with
    | none => cases h
    | some [] => cases h
    | some (n :: t) =>
      obtain ⟨q, hq, rfl⟩ := List.mem_map.mp (show c ∈ (rulesOf rs n).map (·.1) from h)
      exact hs _ (mem_rulesOf.mp hq)
  unfold lettersP
  have hp : (once (headsL rs p.1 ++ headsL rs p.2)).Perm (signs.filter (stepsP rs p)) := by
    refine (List.perm_ext_iff_of_nodup (once_nd _) (nd.filter _)).mpr fun c => ?_
    rw [once_memL, List.mem_filter, ← e]
    constructor
    · intro h
      refine ⟨?_, h⟩
      rcases List.mem_append.mp h with h | h
      · exact hsub c _ h
      · exact hsub c _ h
    · exact fun h => h.2
  rw [ssort_eq hp]
  have h2 : ((ssort signs).filter (stepsP rs p)).Perm (signs.filter (stepsP rs p)) := (ssort_perm signs).filter _
  exact ((ssort_perm _).trans h2.symm).eq_of_pairwise (fun _ _ _ _ => sle_anti) (ssort_pair _) ((ssort_pair signs).filter _)
/-! keys of pairs -/
def kO : Row? → NestedKey
  | none => .none
  | some r => kRow r
theorem kO_inj {a b : Row?} (h : kO a = kO b) : a = b := by
  cases a with
  | none => cases b with
    | none => rfl
    | some y => cases h
  | some x => cases b with
    | none => cases h
    | some y => rw [kRow_inj h]
def kP (p : PairR) : NestedKey := .tup [kO p.1, kO p.2]
theorem kP_inj {p q : PairR} (h : kP p = kP q) : p = q := by
  unfold kP at h
  have h := NestedKey.tup.inj h
  have h1 := (List.cons.inj h).1
  have h2 := (List.cons.inj (List.cons.inj h).2).1
  exact Prod.ext_iff.mpr ⟨kO_inj h1, kO_inj h2⟩
theorem depth_kP (p : PairR) : (kP p).depth ≤ 8 := by
  have g : ∀ o : Row?, (kO o).depth ≤ 1 := fun o => by
    cases o with
    | none => unfold kO; rw [NestedKey.depth]; omega
    | some r => unfold kO; rw [depth_row]; omega
  unfold kP
  rw [NestedKey.depth, NestedKey.depthAll, NestedKey.depthAll, NestedKey.depthAll]
  have h1 := g p.1
  have h2 := g p.2
  omega
theorem firstL_more {lay : Nat → List EntP} {k : Nat} {z : Str} (h : firstL lay k = some z) : ∀ d, firstL lay (k + d) = some z
  | 0 => h
  | d + 1 => by rw [← Nat.add_assoc, firstL_snoc, firstL_more h d]; rfl
theorem EntOk.mono {names : List Str} {k i k2 i2 : Nat} {e : EntP} (h : EntOk names k i e) (h1 : k ≤ k2) (h2 : i ≤ i2) : EntOk names k2 i2 e :=
  ⟨Nat.le_trans h.1 h2, fun r e => ⟨(h.2.1 r e).1, by have := (h.2.1 r e).2; omega⟩, fun r e => ⟨(h.2.2 r e).1, by have := (h.2.2 r e).2; omega⟩⟩
def optT : Option Str → V
  | none => .non
  | some z => .str z
theorem filter_snocP {α : Type} (p : α → Bool) (xs : List α) (x : α) : (xs ++ [x]).filter p = if p x = true then xs.filter p ++ [x] else xs.filter p := by
  rw [List.filter_append, List.filter_cons, List.filter_nil]
  split
  · rfl
  · rw [List.append_nil]
end SG
/-! a name with the rules of another one -/
namespace SG
open PySem PySem.Spec PyProof.Rows L2
theorem rulesOf_app (rs qs : List Rule) (n : Str) : rulesOf (rs ++ qs) n = rulesOf rs n ++ rulesOf qs n := by
  unfold rulesOf
  rw [List.filter_append, List.map_append]
theorem rulesOf_none {names : List Str} {rs : List Rule} (g : GoodR names rs) {n : Str} (h : n ∉ names) : rulesOf rs n = [] := by
  unfold rulesOf
  rw [List.filter_eq_nil_iff.mpr (fun r hr e => h (by rw [← of_decide_eq_true e]; exact (g.ok r hr).1))]
  rfl
structure LikeR (names base : List Str) (rs : List Rule) (n : Str) (new : List Rule) : Prop where
  one : ∃ o ∈ base, new.map (·.2.1) = (rulesOf rs o).map (·.1)
  row : ∀ r ∈ new, r.1 = n ∧ r.2.2.length ≤ 3 ∧ ∀ x ∈ r.2.2, x ∈ names
theorem rulesOf_all {n : Str} : ∀ {new : List Rule}, (∀ r ∈ new, r.1 = n) → rulesOf new n = new.map (·.2)
  | [], _ => rfl
  | r :: new, h => by
    have ih := rulesOf_all (new := new) fun x hx => h x (List.mem_cons_of_mem _ hx)
    unfold rulesOf at ih ⊢
    rw [List.filter_cons, if_pos (decide_eq_true (h r List.mem_cons_self)), List.map_cons, ih, List.map_cons]
theorem rulesOf_other {n m : Str} (hm : m ≠ n) : ∀ {new : List Rule}, (∀ r ∈ new, r.1 = n) → rulesOf new m = [] := fun {new} h => by
  unfold rulesOf
  rw [List.filter_eq_nil_iff.mpr (fun r hr e => hm (by rw [← of_decide_eq_true e]; exact h r hr))]
  rfl
theorem EndsR.adds {names : List Str} {rs : List Rule} : ∀ {new : List Rule}, EndsR names rs → EndsR names (rs ++ new)
  | [], h => by rw [List.append_nil]; exact h
  | r :: new, h => by
    have := EndsR.adds (new := new) (h.more r)
    rw [List.append_assoc] at this
    exact this
theorem LikeR.good {names base : List Str} {rs new : List Rule} {n : Str} (g : GoodR names rs) (p : PlainR rs) (e : EndsR names rs) (hn : n ∉ names) (hb : ∀ x ∈ base, x ∈ names) (h : LikeR names base rs n new) :
    GoodR (names ++ [n]) (rs ++ new) ∧ PlainR (rs ++ new) ∧ EndsR (names ++ [n]) (rs ++ new) ∧ (∀ r ∈ new, ∃ u ∈ rs, u.2.1 = r.2.1) ∧ new.length ≤ 4 := by
  obtain ⟨o, ho, hl⟩ := h.one
  have hlen : new.length = (rulesOf rs o).length := by
    have := congrArg List.length hl
    rw [List.length_map, List.length_map] at this
    exact this
  have hfew := g.few o
  have hnl : (new.map (·.2.1)).Nodup := by rw [hl]; exact p o
  have hlet : ∀ r ∈ new, ∃ u ∈ rs, u.2.1 = r.2.1 := fun r hr => by
    have h1 : r.2.1 ∈ new.map (·.2.1) := List.mem_map_of_mem hr
    rw [hl] at h1
    obtain ⟨q, hq, e1⟩ := List.mem_map.mp h1
    exact ⟨_, mem_rulesOf.mp hq, e1⟩
  have hfst : ∀ r ∈ new, r.1 = n := fun r hr => (h.row r hr).1
  have hne : new ≠ [] := fun z => by
    have h1 := ends_rules e (hb o ho)
    rw [z] at hlen
    exact h1 (List.length_eq_zero_iff.mp hlen.symm)
  refine ⟨⟨?_, fun r hr => ?_, fun m => ?_⟩, fun m => ?_, ?_, hlet, by omega⟩
  · rw [List.nodup_append]
    refine ⟨g.nd, (List.pairwise_map.mp hnl).imp fun h e => h (by rw [e]), fun a ha b hb2 e1 => hn ?_⟩
    rw [← hfst b hb2, ← e1]
    exact (g.ok a ha).1
  · rcases List.mem_append.mp hr with hr | hr
    · obtain ⟨a, b, c, d⟩ := g.ok r hr
      exact ⟨List.mem_append_left _ a, b, c, fun x hx => List.mem_append_left _ (d x hx)⟩
    · obtain ⟨a, b, c⟩ := h.row r hr
      obtain ⟨u, hu, e1⟩ := hlet r hr
      refine ⟨by rw [a]; simp, by rw [← e1]; exact (g.ok u hu).2.1, b, fun x hx => List.mem_append_left _ (c x hx)⟩
  · rw [rulesOf_app]
    by_cases c : m = n
    · rw [c, rulesOf_none g hn, rulesOf_all hfst, List.nil_append, List.length_map]
      omega
    · rw [rulesOf_other c hfst, List.append_nil]
      exact g.few m
  · rw [rulesOf_app]
    by_cases c : m = n
    · rw [c, rulesOf_none g hn, rulesOf_all hfst, List.nil_append, List.map_map]
      exact hnl
    · rw [rulesOf_other c hfst, List.append_nil]
      exact p m
  · cases new with
    | nil => exact absurd rfl hne
    | cons r0 rest =>
      have h1 := e.put (r := r0) (h.row r0 List.mem_cons_self).2.2
      rw [hfst r0 List.mem_cons_self] at h1
      have h2 := h1.adds (new := rest)
      rw [List.append_assoc] at h2
      exact h2
theorem cut_negk (xs : List V) (k : Nat) (h0 : 0 < k) (h : k ≤ xs.length) : cutV xs none (some (-(k : Int))) = xs.take (xs.length - k) := by
  unfold cutV
  have e1 : HT.sIx xs.length 0 none = 0 := rfl
  have e2 : HT.sIx xs.length xs.length (some (-(k : Int))) = xs.length - k := by
    show (if (-(k : Int)) < 0 then ((-(k : Int)) + (xs.length : Int)).toNat else min (-(k : Int)).toNat xs.length) = _
    rw [if_pos (by omega)]
    omega
  rw [e1, e2, List.drop_zero, Nat.sub_zero]
theorem paired_set {α β : Type} {F : α → β → Prop} : ∀ {xs : List α} {ys : List β} (i : Nat) {x : α} {y : β}, Paired F xs ys → F x y → Paired F (xs.set i x) (ys.set i y)
  | _, _, _, _, _, .nil, _ => .nil
  | _, _, 0, _, _, .cons _ t, h => .cons h t
  | _, _, i + 1, _, _, .cons a t, h => .cons a (paired_set i t h)
/-! what the first parting word is -/
theorem byLs_nil (rs : List Rule) (o : Row?) : byLs rs o "" = o := by
  unfold byLs
  rw [signs_nil]
  rfl
theorem layF_is {rs : List Rule} {sg : List Str} {p : PairR} (h1 : ∀ c ∈ sg, c.length = 1) : ∀ i, ∀ e ∈ layF rs sg p i, e.2 = (byLs rs p.1 e.1, byLs rs p.2 e.1)
  | 0, e, h => by
    rw [List.mem_singleton.mp h]
    show p = (byLs rs p.1 "", byLs rs p.2 "")
    rw [byLs_nil, byLs_nil]
  | i + 1, e, h => by
    obtain ⟨x, hx, h2⟩ := List.mem_flatMap.mp (show e ∈ (layF rs sg p i).flatMap (nextP rs sg) from h)
    have ih := layF_is h1 i x hx
    obtain ⟨c, hc, rfl⟩ := List.mem_map.mp h2
    have hc1 := h1 c (List.mem_filter.mp hc).1
    show stepP rs x.2 c = (byLs rs p.1 (x.1 ++ c), byLs rs p.2 (x.1 ++ c))
    rw [byLs_app hc1, byLs_app hc1, ih]
    rfl
def swapE (e : EntP) : EntP := (e.1, e.2.2, e.2.1)
theorem nextP_swap (rs : List Rule) (sg : List Str) (e : EntP) : nextP rs sg (swapE e) = (nextP rs sg e).map swapE := by
  unfold nextP
  rw [List.map_map]
  have e1 : stepsP rs (swapE e).2 = stepsP rs e.2 := by
    funext c
    unfold stepsP stepP swapE
    by_cases a : stepL rs e.2.1 c = none <;> by_cases b : stepL rs e.2.2 c = none <;> simp [a, b]
  rw [e1]
  rfl
theorem layF_swap (rs : List Rule) (sg : List Str) (a b : Row?) : ∀ i, layF rs sg (b, a) i = (layF rs sg (a, b) i).map swapE
  | 0 => rfl
  | i + 1 => by
    show (layF rs sg (b, a) i).flatMap (nextP rs sg) = ((layF rs sg (a, b) i).flatMap (nextP rs sg)).map swapE
    rw [layF_swap rs sg a b i, List.flatMap_map, List.map_flatMap]
    congr 1
    funext e
    exact nextP_swap rs sg e
theorem first_swap (rs : List Rule) (sg : List Str) (a b : Row?) (k : Nat) : firstL (layF rs sg (b, a)) k = firstL (layF rs sg (a, b)) k := by
  unfold firstL
  congr 1
  funext i
  rw [layF_swap, List.find?_map]
  have e1 : ((fun e : EntP => partsP e.2) ∘ swapE) = fun e => partsP e.2 := by
    funext e
    show partsP (e.2.2, e.2.1) = partsP e.2
    unfold partsP
    cases decide (e.2.1 = some []) <;> cases decide (e.2.2 = some []) <;> rfl
  rw [e1, Option.map_map]
  rfl
theorem layF_eq {rs : List Rule} {sg : List Str} {x : Row?} : ∀ i, ∀ e ∈ layF rs sg (x, x) i, e.2.1 = e.2.2
  | 0, e, h => by rw [List.mem_singleton.mp h]
  | i + 1, e, h => by
    obtain ⟨y, hy, h2⟩ := List.mem_flatMap.mp (show e ∈ (layF rs sg (x, x) i).flatMap (nextP rs sg) from h)
    have ih := layF_eq i y hy
    obtain ⟨c, hc, rfl⟩ := List.mem_map.mp h2
    show stepL rs y.2.1 c = stepL rs y.2.2 c
    rw [ih]
theorem first_eq (rs : List Rule) (sg : List Str) (x : Row?) (k : Nat) : firstL (layF rs sg (x, x)) k = none := by
  unfold firstL
  rw [List.findSome?_eq_none_iff]
  intro i _
  rw [Option.map_eq_none_iff, List.find?_eq_none]
  intro e he
  have h := layF_eq i e he
  unfold partsP
  rw [h]
  simp
theorem first_parts {lay : Nat → List EntP} {k : Nat} {z : Str} (h : firstL lay k = some z) : ∃ i e, i < k ∧ e ∈ lay i ∧ partsP e.2 = true ∧ e.1 = z := by
  unfold firstL at h
  obtain ⟨i, hi, h2⟩ := List.exists_of_findSome?_eq_some h
  rw [Option.map_eq_some_iff] at h2
  obtain ⟨e, he, h3⟩ := h2
  exact ⟨i, e, List.mem_range.mp hi, List.mem_of_find?_eq_some he, (List.find?_some (p := fun e : EntP => partsP e.2) he), h3⟩
def eOT : Option Str → PyData
  | none => .none
  | some z => .str z
theorem enc_OT : Enc eOT := fun a b => by
  cases a with
  | none => cases b <;> simp [eOT, PyData.eqv]
  | some x => cases b with
    | none => simp [eOT, PyData.eqv]
    | some y =>
      show PyData.eqv (.str x) (.str y) = _
      rw [enc_str]
      by_cases c : x = y <;> simp [c]
theorem dep_OT (a : Option Str) : (eOT a).depth ≤ 60 := by
  cases a with
  | none => show PyData.depth .none ≤ 60; rw [PyData.depth]; omega
  | some r => show PyData.depth (.str r) ≤ 60; rw [PyData.depth]; omega
theorem dp_OT {K : PySem.W.Frag} {H : Hp} (o : Option Str) : Dp K H (optT o) (eOT o) := by
  cases o with
  | none => exact .non
  | some z => exact .str z
theorem pow_few {n m i : Nat} (h : (n ≤ 2 ∧ m ≤ 8) ∨ (n ≤ 3 ∧ m ≤ 6)) (hi : i ≤ m + 1) : n ^ i ≤ 20000 := by
  rcases h with ⟨h1, h2⟩ | ⟨h1, h2⟩
  · refine Nat.le_trans (Nat.pow_le_pow_left h1 i) (Nat.le_trans (Nat.pow_le_pow_right (by decide) (show i ≤ 9 by omega)) (by decide))
  · refine Nat.le_trans (Nat.pow_le_pow_left h1 i) (Nat.le_trans (Nat.pow_le_pow_right (by decide) (show i ≤ 7 by omega)) (by decide))
end SG
namespace SG
open PySem PySem.Spec PyProof.Rows L2
def topS (i : Nat) : Stmt := PySem.Challenge.pw_samegoing_k57_words_that_part.main.body.getD i (.Pass ⟨0, 0, 0, 0⟩)
abbrev s_is_small : Stmt := topS 28
abbrev s_is_name : Stmt := topS 29
abbrev s_is_letter : Stmt := topS 30
abbrev s_are_names : Stmt := topS 31
abbrev s_Grammar___init__ : Stmt := inClass (topS 32) 0
abbrev s_Grammar_lets_by : Stmt := inClass (topS 32) 1
abbrev s_Grammar_names : Stmt := inClass (topS 32) 2
abbrev s_Grammar_has : Stmt := inClass (topS 32) 3
abbrev s_Grammar_rules_of : Stmt := inClass (topS 32) 4
abbrev s_Grammar_rules : Stmt := inClass (topS 32) 5
abbrev s_look_at_names : Stmt := topS 7
abbrev s_added_up : Stmt := topS 9
abbrev s_norms : Stmt := topS 10
abbrev s_endless : Stmt := topS 11
abbrev s_twice_by : Stmt := topS 13
abbrev s_look_at_tongue : Stmt := topS 14
abbrev s_one_step : Stmt := topS 15
abbrev s_by_letters : Stmt := topS 16
abbrev s_runs_to : Stmt := topS 17
abbrev s_ends_by : Stmt := topS 18
abbrev s_letters_of_both : Stmt := topS 19
abbrev s_pair_key : Stmt := topS 20
abbrev s_pairs_behind : Stmt := topS 21
abbrev s_parting_word : Stmt := topS 22
abbrev s__law_cell_at : Stmt := topS 34
abbrev s__law_well : Stmt := topS 35
abbrev s__law_draw : Stmt := topS 36
abbrev s__law_one : Stmt := topS 37
abbrev s__law_names : Stmt := topS 38
abbrev s__law_signs : Stmt := topS 39
abbrev s__law_mixed : Stmt := topS 40
abbrev s__law_rules : Stmt := topS 41
abbrev s__law_walk : Stmt := topS 43
abbrev s__law_of : Stmt := topS 42
abbrev s__law_like : Stmt := topS 44
abbrev s__law_due : Stmt := topS 45
abbrev s_law : Stmt := topS 46
structure Ad where
  c_Grammar : Addr
  a_is_small : Addr
  d_is_small : FuncData
  a_is_name : Addr
  d_is_name : FuncData
  a_is_letter : Addr
  d_is_letter : FuncData
  a_are_names : Addr
  d_are_names : FuncData
  a_Grammar___init__ : Addr
  d_Grammar___init__ : FuncData
  a_Grammar_lets_by : Addr
  d_Grammar_lets_by : FuncData
  a_Grammar_names : Addr
  d_Grammar_names : FuncData
  a_Grammar_has : Addr
  d_Grammar_has : FuncData
  a_Grammar_rules_of : Addr
  d_Grammar_rules_of : FuncData
  a_Grammar_rules : Addr
  d_Grammar_rules : FuncData
  a_look_at_names : Addr
  d_look_at_names : FuncData
  a_added_up : Addr
  d_added_up : FuncData
  a_norms : Addr
  d_norms : FuncData
  a_endless : Addr
  d_endless : FuncData
  a_twice_by : Addr
  d_twice_by : FuncData
  a_look_at_tongue : Addr
  d_look_at_tongue : FuncData
  a_one_step : Addr
  d_one_step : FuncData
  a_by_letters : Addr
  d_by_letters : FuncData
  a_runs_to : Addr
  d_runs_to : FuncData
  a_ends_by : Addr
  d_ends_by : FuncData
  a_letters_of_both : Addr
  d_letters_of_both : FuncData
  a_pair_key : Addr
  d_pair_key : FuncData
  a_pairs_behind : Addr
  d_pairs_behind : FuncData
  a_parting_word : Addr
  d_parting_word : FuncData
  a__law_cell_at : Addr
  d__law_cell_at : FuncData
  a__law_well : Addr
  d__law_well : FuncData
  a__law_draw : Addr
  d__law_draw : FuncData
  a__law_one : Addr
  d__law_one : FuncData
  a__law_names : Addr
  d__law_names : FuncData
  a__law_signs : Addr
  d__law_signs : FuncData
  a__law_mixed : Addr
  d__law_mixed : FuncData
  a__law_rules : Addr
  d__law_rules : FuncData
  a__law_walk : Addr
  d__law_walk : FuncData
  a__law_of : Addr
  d__law_of : FuncData
  a__law_like : Addr
  d__law_like : FuncData
  a__law_due : Addr
  d__law_due : FuncData
structure Txt (K : PySem.W.Frag) (mg : Str → Option Value) (A : Ad) : Prop where
  cl_Grammar : Cls K A.c_Grammar
  g_Grammar : mg "Grammar" = some (.ref A.c_Grammar)
  n_Grammar_known : NoAttr K A.c_Grammar "known"
  n_Grammar_stored : NoAttr K A.c_Grammar "stored"
  n_Grammar_order : NoAttr K A.c_Grammar "order"
  mk_Grammar : Mk K A.c_Grammar A.a_Grammar___init__
  F_is_small : Fun K "is_small" "is_small" s_is_small A.a_is_small A.d_is_small
  g_is_small : mg "is_small" = some (.ref A.a_is_small)
  b_is_small : Binds K A.d_is_small ["text"] []
  F_is_name : Fun K "is_name" "is_name" s_is_name A.a_is_name A.d_is_name
  g_is_name : mg "is_name" = some (.ref A.a_is_name)
  b_is_name : Binds K A.d_is_name ["text"] []
  F_is_letter : Fun K "is_letter" "is_letter" s_is_letter A.a_is_letter A.d_is_letter
  g_is_letter : mg "is_letter" = some (.ref A.a_is_letter)
  b_is_letter : Binds K A.d_is_letter ["text"] []
  F_are_names : Fun K "are_names" "are_names" s_are_names A.a_are_names A.d_are_names
  g_are_names : mg "are_names" = some (.ref A.a_are_names)
  b_are_names : Binds K A.d_are_names ["names"] []
  F_Grammar___init__ : Fun K "__init__" "Grammar.__init__" s_Grammar___init__ A.a_Grammar___init__ A.d_Grammar___init__
  m_Grammar___init__ : Meth K A.c_Grammar "__init__" A.a_Grammar___init__
  b_Grammar___init__ : Binds K A.d_Grammar___init__ ["self", "names", "rules"] []
  F_Grammar_lets_by : Fun K "lets_by" "Grammar.lets_by" s_Grammar_lets_by A.a_Grammar_lets_by A.d_Grammar_lets_by
  m_Grammar_lets_by : Meth K A.c_Grammar "lets_by" A.a_Grammar_lets_by
  b_Grammar_lets_by : Binds K A.d_Grammar_lets_by ["self", "rule"] []
  F_Grammar_names : Fun K "names" "Grammar.names" s_Grammar_names A.a_Grammar_names A.d_Grammar_names
  m_Grammar_names : Meth K A.c_Grammar "names" A.a_Grammar_names
  b_Grammar_names : Binds K A.d_Grammar_names ["self"] []
  F_Grammar_has : Fun K "has" "Grammar.has" s_Grammar_has A.a_Grammar_has A.d_Grammar_has
  m_Grammar_has : Meth K A.c_Grammar "has" A.a_Grammar_has
  b_Grammar_has : Binds K A.d_Grammar_has ["self", "name"] []
  F_Grammar_rules_of : Fun K "rules_of" "Grammar.rules_of" s_Grammar_rules_of A.a_Grammar_rules_of A.d_Grammar_rules_of
  m_Grammar_rules_of : Meth K A.c_Grammar "rules_of" A.a_Grammar_rules_of
  b_Grammar_rules_of : Binds K A.d_Grammar_rules_of ["self", "name"] []
  F_Grammar_rules : Fun K "rules" "Grammar.rules" s_Grammar_rules A.a_Grammar_rules A.d_Grammar_rules
  m_Grammar_rules : Meth K A.c_Grammar "rules" A.a_Grammar_rules
  b_Grammar_rules : Binds K A.d_Grammar_rules ["self"] []
  F_look_at_names : Fun K "look_at_names" "look_at_names" s_look_at_names A.a_look_at_names A.d_look_at_names
  g_look_at_names : mg "look_at_names" = some (.ref A.a_look_at_names)
  b_look_at_names : Binds K A.d_look_at_names ["grammar", "row"] []
  F_added_up : Fun K "added_up" "added_up" s_added_up A.a_added_up A.d_added_up
  g_added_up : mg "added_up" = some (.ref A.a_added_up)
  b_added_up : Binds K A.d_added_up ["norms", "row"] []
  F_norms : Fun K "norms" "norms" s_norms A.a_norms A.d_norms
  g_norms : mg "norms" = some (.ref A.a_norms)
  b_norms : Binds K A.d_norms ["grammar"] []
  F_endless : Fun K "endless" "endless" s_endless A.a_endless A.d_endless
  g_endless : mg "endless" = some (.ref A.a_endless)
  b_endless : Binds K A.d_endless ["grammar"] []
  F_twice_by : Fun K "twice_by" "twice_by" s_twice_by A.a_twice_by A.d_twice_by
  g_twice_by : mg "twice_by" = some (.ref A.a_twice_by)
  b_twice_by : Binds K A.d_twice_by ["grammar"] []
  F_look_at_tongue : Fun K "look_at_tongue" "look_at_tongue" s_look_at_tongue A.a_look_at_tongue A.d_look_at_tongue
  g_look_at_tongue : mg "look_at_tongue" = some (.ref A.a_look_at_tongue)
  b_look_at_tongue : Binds K A.d_look_at_tongue ["grammar", "rows"] []
  F_one_step : Fun K "one_step" "one_step" s_one_step A.a_one_step A.d_one_step
  g_one_step : mg "one_step" = some (.ref A.a_one_step)
  b_one_step : Binds K A.d_one_step ["grammar", "row", "letter"] []
  F_by_letters : Fun K "by_letters" "by_letters" s_by_letters A.a_by_letters A.d_by_letters
  g_by_letters : mg "by_letters" = some (.ref A.a_by_letters)
  b_by_letters : Binds K A.d_by_letters ["grammar", "row", "word"] []
  F_runs_to : Fun K "runs_to" "runs_to" s_runs_to A.a_runs_to A.d_runs_to
  g_runs_to : mg "runs_to" = some (.ref A.a_runs_to)
  b_runs_to : Binds K A.d_runs_to ["grammar", "row", "word"] []
  F_ends_by : Fun K "ends_by" "ends_by" s_ends_by A.a_ends_by A.d_ends_by
  g_ends_by : mg "ends_by" = some (.ref A.a_ends_by)
  b_ends_by : Binds K A.d_ends_by ["grammar", "row", "word"] []
  F_letters_of_both : Fun K "letters_of_both" "letters_of_both" s_letters_of_both A.a_letters_of_both A.d_letters_of_both
  g_letters_of_both : mg "letters_of_both" = some (.ref A.a_letters_of_both)
  b_letters_of_both : Binds K A.d_letters_of_both ["grammar", "rows"] []
  F_pair_key : Fun K "pair_key" "pair_key" s_pair_key A.a_pair_key A.d_pair_key
  g_pair_key : mg "pair_key" = some (.ref A.a_pair_key)
  b_pair_key : Binds K A.d_pair_key ["pair"] []
  F_pairs_behind : Fun K "pairs_behind" "pairs_behind" s_pairs_behind A.a_pairs_behind A.d_pairs_behind
  g_pairs_behind : mg "pairs_behind" = some (.ref A.a_pairs_behind)
  b_pairs_behind : Binds K A.d_pairs_behind ["grammar", "layer"] []
  F_parting_word : Fun K "parting_word" "parting_word" s_parting_word A.a_parting_word A.d_parting_word
  g_parting_word : mg "parting_word" = some (.ref A.a_parting_word)
  b_parting_word : Binds K A.d_parting_word ["grammar", "one", "other", "most"] []
  F__law_cell_at : Fun K "_law_cell_at" "_law_cell_at" s__law_cell_at A.a__law_cell_at A.d__law_cell_at
  g__law_cell_at : mg "_law_cell_at" = some (.ref A.a__law_cell_at)
  b__law_cell_at : Binds K A.d__law_cell_at ["_law_script", "_law_k"] []
  F__law_well : Fun K "_law_well" "_law_well" s__law_well A.a__law_well A.d__law_well
  g__law_well : mg "_law_well" = some (.ref A.a__law_well)
  b__law_well : Binds K A.d__law_well ["_law_cell"] []
  F__law_draw : Fun K "_law_draw" "_law_draw" s__law_draw A.a__law_draw A.d__law_draw
  g__law_draw : mg "_law_draw" = some (.ref A.a__law_draw)
  b__law_draw : Binds K A.d__law_draw ["_law_well_here", "_law_many"] []
  F__law_one : Fun K "_law_one" "_law_one" s__law_one A.a__law_one A.d__law_one
  g__law_one : mg "_law_one" = some (.ref A.a__law_one)
  b__law_one : Binds K A.d__law_one ["_law_well_here", "_law_some"] []
  F__law_names : Fun K "_law_names" "_law_names" s__law_names A.a__law_names A.d__law_names
  g__law_names : mg "_law_names" = some (.ref A.a__law_names)
  b__law_names : Binds K A.d__law_names ["_law_well_here", "_law_many"] []
  F__law_signs : Fun K "_law_signs" "_law_signs" s__law_signs A.a__law_signs A.d__law_signs
  g__law_signs : mg "_law_signs" = some (.ref A.a__law_signs)
  b__law_signs : Binds K A.d__law_signs ["_law_well_here", "_law_many"] []
  F__law_mixed : Fun K "_law_mixed" "_law_mixed" s__law_mixed A.a__law_mixed A.d__law_mixed
  g__law_mixed : mg "_law_mixed" = some (.ref A.a__law_mixed)
  b__law_mixed : Binds K A.d__law_mixed ["_law_well_here", "_law_some"] []
  F__law_rules : Fun K "_law_rules" "_law_rules" s__law_rules A.a__law_rules A.d__law_rules
  g__law_rules : mg "_law_rules" = some (.ref A.a__law_rules)
  b__law_rules : Binds K A.d__law_rules ["_law_well_here", "_law_names_here", "_law_signs_here", "_law_plain", "_law_most"] []
  F__law_walk : Fun K "_law_walk" "_law_walk" s__law_walk A.a__law_walk A.d__law_walk
  g__law_walk : mg "_law_walk" = some (.ref A.a__law_walk)
  b__law_walk : Binds K A.d__law_walk ["_law_rules_here", "_law_row", "_law_word"] []
  F__law_of : Fun K "_law_of" "_law_of" s__law_of A.a__law_of A.d__law_of
  g__law_of : mg "_law_of" = some (.ref A.a__law_of)
  b__law_of : Binds K A.d__law_of ["_law_rules_here", "_law_name"] []
  F__law_like : Fun K "_law_like" "_law_like" s__law_like A.a__law_like A.d__law_like
  g__law_like : mg "_law_like" = some (.ref A.a__law_like)
  b__law_like : Binds K A.d__law_like ["_law_well_here", "_law_rules_here", "_law_known", "_law_names_here", "_law_name"] []
  F__law_due : Fun K "_law_due" "_law_due" s__law_due A.a__law_due A.d__law_due
  g__law_due : mg "_law_due" = some (.ref A.a__law_due)
  b__law_due : Binds K A.d__law_due ["_law_rules_here", "_law_one_here", "_law_other", "_law_signs_here", "_law_most"] []
  c_SMALL : ∃ t, mg "SMALL" = some (.str "abcdefghijklmnopqrstuvwxyz" t)
  c_MOST_NAMES : ∃ t, mg "MOST_NAMES" = some (.int 6 t)
  c_MOST_RULES : ∃ t, mg "MOST_RULES" = some (.int 4 t)
  c_MOST_ROW : ∃ t, mg "MOST_ROW" = some (.int 3 t)
  len : mg "len" = none
  set_ : mg "set" = none
  all : mg "all" = none
  list_ : mg "list" = none
  enumerate : mg "enumerate" = none
  range : mg "range" = none
  sum : mg "sum" = none
  sorted : mg "sorted" = none
  dict_ : mg "dict" = none
  int_ : mg "int" = none
  isinstance : mg "isinstance" = none
  tuple_ : mg "tuple" = none
  max : mg "max" = none
theorem sc_is_small : FnScope ["text", "sign"] ["text"] (defScope s_is_small) := ⟨rfl, rfl, rfl, by decide +kernel, rfl, by decide +kernel, by decide +kernel⟩
theorem sc_is_name : FnScope ["text"] ["text"] (defScope s_is_name) := ⟨rfl, rfl, rfl, by decide +kernel, rfl, by decide +kernel, by decide +kernel⟩
theorem sc_is_letter : FnScope ["text"] ["text"] (defScope s_is_letter) := ⟨rfl, rfl, rfl, by decide +kernel, rfl, by decide +kernel, by decide +kernel⟩
theorem sc_are_names : FnScope ["names", "name"] ["names"] (defScope s_are_names) := ⟨rfl, rfl, rfl, by decide +kernel, rfl, by decide +kernel, by decide +kernel⟩
theorem sc_Grammar___init__ : FnScope ["self", "names", "rules", "name", "at", "rule"] ["self", "names", "rules"] (defScope s_Grammar___init__) := ⟨rfl, rfl, rfl, by decide +kernel, rfl, by decide +kernel, by decide +kernel⟩
theorem sc_Grammar_lets_by : FnScope ["self", "rule", "name", "letter", "row", "one"] ["self", "rule"] (defScope s_Grammar_lets_by) := ⟨rfl, rfl, rfl, by decide +kernel, rfl, by decide +kernel, by decide +kernel⟩
theorem sc_Grammar_names : FnScope ["self"] ["self"] (defScope s_Grammar_names) := ⟨rfl, rfl, rfl, by decide +kernel, rfl, by decide +kernel, by decide +kernel⟩
theorem sc_Grammar_has : FnScope ["self", "name"] ["self", "name"] (defScope s_Grammar_has) := ⟨rfl, rfl, rfl, by decide +kernel, rfl, by decide +kernel, by decide +kernel⟩
theorem sc_Grammar_rules_of : FnScope ["self", "name", "letter", "row"] ["self", "name"] (defScope s_Grammar_rules_of) := ⟨rfl, rfl, rfl, by decide +kernel, rfl, by decide +kernel, by decide +kernel⟩
theorem sc_Grammar_rules : FnScope ["self", "met", "found", "name", "at", "letter", "row"] ["self"] (defScope s_Grammar_rules) := ⟨rfl, rfl, rfl, by decide +kernel, rfl, by decide +kernel, by decide +kernel⟩
theorem sc_look_at_names : FnScope ["grammar", "row", "name"] ["grammar", "row"] (defScope s_look_at_names) := ⟨rfl, rfl, rfl, by decide +kernel, rfl, by decide +kernel, by decide +kernel⟩
theorem sc_added_up : FnScope ["norms", "row", "some", "name"] ["norms", "row"] (defScope s_added_up) := ⟨rfl, rfl, rfl, by decide +kernel, rfl, by decide +kernel, by decide +kernel⟩
theorem sc_norms : FnScope ["grammar", "found", "again", "name", "letter", "row", "norm"] ["grammar"] (defScope s_norms) := ⟨rfl, rfl, rfl, by decide +kernel, rfl, by decide +kernel, by decide +kernel⟩
theorem sc_endless : FnScope ["grammar", "found", "name"] ["grammar"] (defScope s_endless) := ⟨rfl, rfl, rfl, by decide +kernel, rfl, by decide +kernel, by decide +kernel⟩
theorem sc_twice_by : FnScope ["grammar", "found", "name", "letters", "letter", "row"] ["grammar"] (defScope s_twice_by) := ⟨rfl, rfl, rfl, by decide +kernel, rfl, by decide +kernel, by decide +kernel⟩
theorem sc_look_at_tongue : FnScope ["grammar", "rows", "row", "name"] ["grammar", "rows"] (defScope s_look_at_tongue) := ⟨rfl, rfl, rfl, by decide +kernel, rfl, by decide +kernel, by decide +kernel⟩
theorem sc_one_step : FnScope ["grammar", "row", "letter", "by", "more"] ["grammar", "row", "letter"] (defScope s_one_step) := ⟨rfl, rfl, rfl, by decide +kernel, rfl, by decide +kernel, by decide +kernel⟩
theorem sc_by_letters : FnScope ["grammar", "row", "word", "letter"] ["grammar", "row", "word"] (defScope s_by_letters) := ⟨rfl, rfl, rfl, by decide +kernel, rfl, by decide +kernel, by decide +kernel⟩
theorem sc_runs_to : FnScope ["grammar", "row", "word"] ["grammar", "row", "word"] (defScope s_runs_to) := ⟨rfl, rfl, rfl, by decide +kernel, rfl, by decide +kernel, by decide +kernel⟩
theorem sc_ends_by : FnScope ["grammar", "row", "word"] ["grammar", "row", "word"] (defScope s_ends_by) := ⟨rfl, rfl, rfl, by decide +kernel, rfl, by decide +kernel, by decide +kernel⟩
theorem sc_letters_of_both : FnScope ["grammar", "rows", "found", "row", "letter", "more"] ["grammar", "rows"] (defScope s_letters_of_both) := ⟨rfl, rfl, rfl, by decide +kernel, rfl, by decide +kernel, by decide +kernel⟩
theorem sc_pair_key : FnScope ["pair", "row"] ["pair"] (defScope s_pair_key) := ⟨rfl, rfl, rfl, by decide +kernel, rfl, by decide +kernel, by decide +kernel⟩
theorem sc_pairs_behind : FnScope ["grammar", "layer", "seen", "found", "word", "pair", "letter", "behind", "row"] ["grammar", "layer"] (defScope s_pairs_behind) := ⟨rfl, rfl, rfl, by decide +kernel, rfl, by decide +kernel, by decide +kernel⟩
theorem sc_parting_word : FnScope ["grammar", "one", "other", "most", "layer", "many", "word", "pair"] ["grammar", "one", "other", "most"] (defScope s_parting_word) := ⟨rfl, rfl, rfl, by decide +kernel, rfl, by decide +kernel, by decide +kernel⟩
theorem sc__law_cell_at : FnScope ["_law_script", "_law_k"] ["_law_script", "_law_k"] (defScope s__law_cell_at) := ⟨rfl, rfl, rfl, by decide +kernel, rfl, by decide +kernel, by decide +kernel⟩
theorem sc__law_well : FnScope ["_law_cell"] ["_law_cell"] (defScope s__law_well) := ⟨rfl, rfl, rfl, by decide +kernel, rfl, by decide +kernel, by decide +kernel⟩
theorem sc__law_draw : FnScope ["_law_well_here", "_law_many", "_law_found", "_law_base", "_law_number"] ["_law_well_here", "_law_many"] (defScope s__law_draw) := ⟨rfl, rfl, rfl, by decide +kernel, rfl, by decide +kernel, by decide +kernel⟩
theorem sc__law_one : FnScope ["_law_well_here", "_law_some"] ["_law_well_here", "_law_some"] (defScope s__law_one) := ⟨rfl, rfl, rfl, by decide +kernel, rfl, by decide +kernel, by decide +kernel⟩
theorem sc__law_names : FnScope ["_law_well_here", "_law_many", "_law_stem", "_law_first", "_law_k"] ["_law_well_here", "_law_many"] (defScope s__law_names) := ⟨rfl, rfl, rfl, by decide +kernel, rfl, by decide +kernel, by decide +kernel⟩
theorem sc__law_signs : FnScope ["_law_well_here", "_law_many", "_law_first", "_law_k"] ["_law_well_here", "_law_many"] (defScope s__law_signs) := ⟨rfl, rfl, rfl, by decide +kernel, rfl, by decide +kernel, by decide +kernel⟩
theorem sc__law_mixed : FnScope ["_law_well_here", "_law_some", "_law_left", "_law_k"] ["_law_well_here", "_law_some"] (defScope s__law_mixed) := ⟨rfl, rfl, rfl, by decide +kernel, rfl, by decide +kernel, by decide +kernel⟩
theorem sc__law_rules : FnScope ["_law_well_here", "_law_names_here", "_law_signs_here", "_law_plain", "_law_most", "_law_rules_here", "_law_known", "_law_k", "_law_name", "_law_row", "_law_j", "_law_one_here", "_law_letter", "_law_rule", "_law_mine", "_law_other"] ["_law_well_here", "_law_names_here", "_law_signs_here", "_law_plain", "_law_most"] (defScope s__law_rules) := ⟨rfl, rfl, rfl, by decide +kernel, rfl, by decide +kernel, by decide +kernel⟩
theorem sc__law_walk : FnScope ["_law_rules_here", "_law_row", "_law_word", "_law_letter", "_law_some", "_law_name", "_law_by", "_law_more"] ["_law_rules_here", "_law_row", "_law_word"] (defScope s__law_walk) := ⟨rfl, rfl, rfl, by decide +kernel, rfl, by decide +kernel, by decide +kernel⟩
theorem sc__law_of : FnScope ["_law_rules_here", "_law_name", "_law_one_here", "_law_letter", "_law_row"] ["_law_rules_here", "_law_name"] (defScope s__law_of) := ⟨rfl, rfl, rfl, by decide +kernel, rfl, by decide +kernel, by decide +kernel⟩
theorem sc__law_like : FnScope ["_law_well_here", "_law_rules_here", "_law_known", "_law_names_here", "_law_name", "_law_one_here", "_law_behind", "_law_mine", "_law_found", "_law_at", "_law_letter", "_law_row"] ["_law_well_here", "_law_rules_here", "_law_known", "_law_names_here", "_law_name"] (defScope s__law_like) := ⟨rfl, rfl, rfl, by decide +kernel, rfl, by decide +kernel, by decide +kernel⟩
theorem sc__law_due : FnScope ["_law_rules_here", "_law_one_here", "_law_other", "_law_signs_here", "_law_most", "_law_layer", "_law_many", "_law_word", "_law_first", "_law_second", "_law_behind", "_law_letter", "_law_some", "_law_row"] ["_law_rules_here", "_law_one_here", "_law_other", "_law_signs_here", "_law_most"] (defScope s__law_due) := ⟨rfl, rfl, rfl, by decide +kernel, rfl, by decide +kernel, by decide +kernel⟩
theorem sc_law : FnScope ["_law_script", "_law_cell", "_law_well_here", "_law_names_here", "_law_signs_here", "_law_rules_here", "_law_known", "_law_k", "_law_grammar", "_law_row", "_law_at", "_law_other", "_law_most", "_law_due_here", "_law_j"] ["_law_script"] (defScope s_law) := ⟨rfl, rfl, rfl, by decide +kernel, rfl, by decide +kernel, by decide +kernel⟩
end SG
namespace SG
open PySem PySem.Spec PyProof.Rows L2
section
variable {P : Program} {w : World} {K : PySem.W.Frag} {mg : Str → Option Value} {base : Heap} {A : Ad}
def sp_is_small : Sp := fun vs H Q _ => ∃ x : Str, vs = [.str x] ∧ x.length ≤ 1000000 ∧ ∀ H', Same H H' → Q (.bl (isSmall x)) H'
theorem ok_is_small (T : Txt K mg A) : FnOk P w K mg base CX0 1 A.a_is_small A.d_is_small ["text"] sp_is_small := by
  refine T.F_is_small.ok sc_is_small (fun vs H Q E h => ?_) (fun cdv A0 outer s H vs Q E hr h => ?_)
  · obtain ⟨x, rfl, _⟩ := h
    rfl
  · obtain ⟨x, rfl, hx, q⟩ := h
    refine ⟨_, (pss_one (ps_ret (pe_callB (id := "all") (r := rAll K) (cr_all rfl) (by rfl) T.all (by decide +kernel) (pa_cons (pe_lc (own := [("sign", 1)]) (g := gName 1) (by rfl) sc_is_small.nd (pi_str (pv 0)) (blkOk_by (own := [("sign", 1)]) (N := ["text", "sign"]) (sc := defScope s_is_small) (by decide +kernel)) (fun _ _ _ _ _ => (pg_name (i := 1) sc_is_small.nd rfl (Or.inl rfl))) (fun _ _ _ _ _ => pts_nil) (fun _ _ _ _ _ => (pe_cmpR op_in_sign (pv 1) (pe_glob (v := .str "abcdefghijklmnopqrstuvwxyz") (by rfl) T.c_SMALL.choose_spec ⟨_, rfl⟩) (by rfl)))) pa_nil)))), ?_⟩
    refine ⟨_, rfl, x, rfl, fun D hD => lc_scalS (ys := (x.cps.toList.map fun c => decide (c ∈ abcS.cps.toList)).map V.bl) hD (by rw [List.length_map, List.length_map, Array.length_toList]; rfl) hx (fun _ => rfl) (fun i c y H' Q' h1 h2 _ k => ?_) (fun H' sm hl => ?_)⟩
    · rw [List.map_map] at h2
      have e := map_get h1 h2
      subst e
      exact ⟨_, rfl, c, abcS, rfl, rfl, k H' (Same.refl _)⟩
    · refine ⟨D, x.cps.toList.map fun c => decide (c ∈ abcS.cps.toList), rfl, SqL.of hl, ?_⟩
      have e : (x.cps.toList.map fun c => decide (c ∈ abcS.cps.toList)).all id = isSmall x := by
        unfold isSmall
        rw [List.all_map]
        rfl
      rw [e]
      exact q H' sm
def sp_is_name : Sp := fun vs H Q _ => ∃ x : Str, vs = [.str x] ∧ x.length ≤ 1000000 ∧ ∀ H', Same H H' → Q (.bl (isName x)) H'
theorem ok_is_name (T : Txt K mg A) : FnOk P w K mg base CX0 2 A.a_is_name A.d_is_name ["text"] sp_is_name := by
  have G_is_small : FnOk P w K mg base CX0 1 A.a_is_small A.d_is_small ["text"] sp_is_small := ok_is_small T
  refine T.F_is_name.ok sc_is_name (fun vs H Q E h => ?_) (fun cdv A0 outer s H vs Q E hr h => ?_)
  · obtain ⟨x, rfl, _⟩ := h
    rfl
  · obtain ⟨x, rfl, hx, q⟩ := h
    refine ⟨_, (pss_one (ps_ret (pe_and (pe_chain op_le op_le pe_int (pe_callB (id := "len") call_len_str (by rfl) T.len (by decide +kernel) (pa_cons (pv 0) pa_nil)) pe_int) (pe_and (pe_call G_is_small (hr.mono (by decide)) (by rfl) T.g_is_small T.F_is_small.kp T.b_is_small .nil pass0 (pa_cons (pv 0) pa_nil)) (pe_one (pe_cmpR op_ne (pv 0) pe_str (nomark _))))))), ?_⟩
    have hz : x.length ≤ sizeLine := sl2 hx
    have fin : ∀ b c : Bool, isName x = (b && c && isSmall x && decide (x ≠ ("names" : Str))) → b = false → isName x = false := fun b c e h => by rw [e, h]; rfl
    refine ⟨_, rfl, x, rfl, hz, _, _, rfl, rfl, _, rfl, iteB (fun h1 => ?_) (fun h1 => ?_)⟩
    · have h1' : (1 : Int) ≤ (x.length : Int) := of_decide_eq_true h1
      refine ⟨_, _, rfl, rfl, _, rfl, iteB (fun h2 => ?_) (fun h2 => ?_)⟩
      · have h2' : (x.length : Int) ≤ 8 := of_decide_eq_true h2
        refine ⟨_, rfl, x, rfl, hx, fun H' sm => ⟨_, rfl, iteB (fun h3 => ?_) (fun h3 => ?_)⟩⟩
        · refine ⟨_, rfl, rfl, ?_⟩
          have e : isName x = !decide (V.str x = V.str ("names" : Str)) := by
            unfold isName
            rw [h3, decide_eq_true (show 1 ≤ x.length by omega), decide_eq_true (show x.length ≤ 8 by omega)]
            by_cases e : x = ("names" : Str)
            · simp [e]
            · simp [e]
          rw [← e]
          exact q H' sm
        · have e : isName x = false := by unfold isName; rw [h3]; simp
          rw [← e]
          exact q H' sm
      · have e : isName x = false := by
          have : ¬ x.length ≤ 8 := fun z => of_decide_eq_false h2 (by show ((x.length : Nat) : Int) ≤ 8; omega)
          unfold isName
          rw [decide_eq_false this]
          simp
        rw [← e]
        exact q H (Same.refl _)
    · have e : isName x = false := by
        have : ¬ 1 ≤ x.length := fun z => of_decide_eq_false h1 (by show (1 : Int) ≤ ((x.length : Nat) : Int); omega)
        unfold isName
        rw [decide_eq_false this]
        simp
      refine ⟨_, rfl, iteF ?_⟩
      rw [← e]
      exact q H (Same.refl _)
def sp_is_letter : Sp := fun vs H Q _ => ∃ x : Str, vs = [.str x] ∧ x.length ≤ 1000000 ∧ ∀ H', Same H H' → Q (.bl (isLetter x)) H'
theorem ok_is_letter (T : Txt K mg A) : FnOk P w K mg base CX0 2 A.a_is_letter A.d_is_letter ["text"] sp_is_letter := by
  have G_is_small : FnOk P w K mg base CX0 1 A.a_is_small A.d_is_small ["text"] sp_is_small := ok_is_small T
  refine T.F_is_letter.ok sc_is_letter (fun vs H Q E h => ?_) (fun cdv A0 outer s H vs Q E hr h => ?_)
  · obtain ⟨x, rfl, _⟩ := h
    rfl
  · obtain ⟨x, rfl, hx, q⟩ := h
    refine ⟨_, (pss_one (ps_ret (pe_and (pe_cmpR op_eq (pe_callB (id := "len") call_len_str (by rfl) T.len (by decide +kernel) (pa_cons (pv 0) pa_nil)) pe_int (nomark _)) (pe_one (pe_call G_is_small (hr.mono (by decide)) (by rfl) T.g_is_small T.F_is_small.kp T.b_is_small .nil pass0 (pa_cons (pv 0) pa_nil)))))), ?_⟩
    refine ⟨_, rfl, x, rfl, sl2 hx, rfl, _, rfl, iteB (fun h1 => ?_) (fun h1 => ?_)⟩
    · have h1' : (x.length : Int) = 1 := V.int.inj (of_decide_eq_true h1)
      refine ⟨_, rfl, x, rfl, hx, fun H' sm => ?_⟩
      have e : isLetter x = isSmall x := by
        unfold isLetter
        rw [decide_eq_true (show x.length = 1 by omega)]
        rfl
      rw [← e]
      exact q H' sm
    · have e : isLetter x = false := by
        have : ¬ x.length = 1 := fun z => of_decide_eq_false h1 (by rw [z]; rfl)
        unfold isLetter
        rw [decide_eq_false this]
        rfl
      rw [← e]
      exact q H (Same.refl _)
def sp_are_names (K : PySem.W.Frag) : Sp := fun vs H Q _ => ∃ (a : Addr) (xs : List Str), vs = [.ref a] ∧ SqL K H a (xs.map V.str) ∧ xs.length ≤ 1000 ∧ (∀ x ∈ xs, x.length ≤ 1000000) ∧ ∀ H', Same H H' → Q (.bl (areNames xs)) H'
theorem ok_are_names (T : Txt K mg A) : FnOk P w K mg base CX0 3 A.a_are_names A.d_are_names ["names"] (sp_are_names K) := by
  have G_is_name : FnOk P w K mg base CX0 2 A.a_is_name A.d_is_name ["text"] sp_is_name := ok_is_name T
  refine T.F_are_names.ok sc_are_names (fun vs H Q E h => ?_) (fun cdv A0 outer s H vs Q E hr h => ?_)
  · obtain ⟨x, xs, rfl, _⟩ := h
    rfl
  · obtain ⟨a, xs, rfl, hS, hlen, hx, q⟩ := h
    refine ⟨_, (pss_one (ps_ret (pe_and (pe_chain op_le op_le pe_int (pe_callB (id := "len") (r := Evl.rLenS K) call_len_seq (by rfl) T.len (by decide +kernel) (pa_cons (pv 0) pa_nil)) (pe_glob (v := .int 6) (by rfl) T.c_MOST_NAMES.choose_spec ⟨_, rfl⟩)) (pe_and (pe_cmpR op_eq (pe_lenSetS (by rfl) T.len (by rfl) T.set_ (pv 0)) (pe_callB (id := "len") (r := Evl.rLenS K) call_len_seq (by rfl) T.len (by decide +kernel) (pa_cons (pv 0) pa_nil)) (nomark _)) (pe_one (pe_callB (id := "all") (r := rAll K) (cr_all rfl) (by rfl) T.all (by decide +kernel) (pa_cons (pe_lc (own := [("name", 1)]) (g := gName 1) (by rfl) sc_are_names.nd (pi_list (pv 0)) (blkOk_by (own := [("name", 1)]) (N := ["names", "name"]) (sc := defScope s_are_names) (by decide +kernel)) (fun _ _ _ _ _ => (pg_name (i := 1) sc_are_names.nd rfl (Or.inl rfl))) (fun _ _ _ _ _ => pts_nil) (fun _ _ _ _ _ => (pe_call G_is_name (hr.mono (by decide)) (by rfl) T.g_is_name T.F_is_name.kp T.b_is_name .nil pass0 (pa_cons (pv 1) pa_nil)))) pa_nil))))))), ?_⟩
    have no : ∀ {b : Bool}, areNames xs = b → Q (.bl b) H := fun e => by rw [← e]; exact q H (Same.refl _)
    refine ⟨_, rfl, a, _, rfl, .inl hS, _, _, rfl, rfl, _, rfl, iteB (fun h1 => ?_) (fun h1 => ?_)⟩
    · have h1' : (1 : Int) ≤ ((xs.map V.str).length : Int) := of_decide_eq_true h1
      rw [List.length_map] at h1'
      refine ⟨_, _, rfl, rfl, _, rfl, iteB (fun h2 => ?_) (fun h2 => ?_)⟩
      · have h2' : ((xs.map V.str).length : Int) ≤ 6 := of_decide_eq_true h2
        rw [List.length_map] at h2'
        refine ⟨_, rfl, a, xs, rfl, hS, hlen, _, rfl, a, _, rfl, .inl hS, rfl, _, rfl, iteB (fun h3 => ?_) (fun h3 => ?_)⟩
        · have nd : xs.Nodup := by
            have e := V.int.inj (of_decide_eq_true h3)
            rw [List.length_map] at e
            exact (once_nodup xs).mp (by omega)
          refine ⟨_, rfl, a, rfl, ⟨_, hS⟩, fun D hD => lc_scal (K := K) (ys := (xs.map isName).map V.bl) hS hD (by simp) (by rw [List.length_map]; omega) (fun _ => rfl) (fun i x y H' Q' g1 g2 sm k => ?_) (fun H' sm hl => ?_)⟩
          · obtain ⟨n, hn, rfl⟩ := map_at g1
            rw [List.map_map] at g2
            have e := map_get hn g2
            subst e
            exact ⟨_, rfl, n, rfl, hx n (List.mem_of_getElem? hn), fun H'' e => k H'' e⟩
          · refine ⟨D, xs.map isName, rfl, SqL.of hl, ?_⟩
            have e : (xs.map isName).all id = areNames xs := by
              unfold areNames
              rw [decide_eq_true nd, decide_eq_true (show 1 ≤ xs.length by omega), decide_eq_true (show xs.length ≤ 6 by omega), List.all_map]
              rfl
            rw [e]
            exact q H' sm
        · refine no ?_
          have nd : ¬ xs.Nodup := fun z => of_decide_eq_false h3 (by rw [(once_nodup xs).mpr z, List.length_map])
          unfold areNames
          rw [decide_eq_false nd]
          simp
      · refine no ?_
        have : ¬ xs.length ≤ 6 := fun z => of_decide_eq_false h2 (by show (((xs.map V.str).length : Nat) : Int) ≤ 6; rw [List.length_map]; omega)
        unfold areNames
        rw [decide_eq_false this]
        simp
    · refine ⟨_, rfl, iteF (no ?_)⟩
      have : ¬ 1 ≤ xs.length := fun z => of_decide_eq_false h1 (by show (1 : Int) ≤ (((xs.map V.str).length : Nat) : Int); rw [List.length_map]; omega)
      unfold areNames
      rw [decide_eq_false this]
      simp
end
section
variable {P : Program} {w : World} {K : PySem.W.Frag} {mg : Str → Option Value} {base : Heap} {A : Ad}
/-! ### telling -/
def sp_G_names (C : Addr) : Sp := fun vs H Q _ => ∃ (g : Addr) (names : List Str) (rs : List Rule), vs = [.ref g] ∧ GramAt C H g names rs ∧ ∀ p H', H p = none → Same H H' → H' p = some (.lst (names.map V.str)) → Q (.ref p) H'
theorem ok_Grammar_names (T : Txt K mg A) : FnOk P w K mg base CX0 1 A.a_Grammar_names A.d_Grammar_names ["self"] (sp_G_names A.c_Grammar) := by
  refine T.F_Grammar_names.ok sc_Grammar_names (fun vs H Q E h => ?_) (fun cdv A0 outer s H vs Q E hr h => ?_)
  · obtain ⟨g, _, _, rfl, _⟩ := h
    rfl
  · obtain ⟨g, names, rs, rfl, G, q⟩ := h
    obtain ⟨dx, kn, st, od, ls, h1, h2, h3, h4⟩ := G.ex
    refine ⟨_, (pss_one (ps_ret (pe_callTy (T := "list") (r := Evl.rListS K) call_list_of (by rfl) T.list_ (by decide +kernel) (pa_cons (pe_fld (pv 0) rfl) pa_nil)))), ?_⟩
    exact ⟨_, rfl, g, _, _, _, _, rfl, h1, T.cl_Grammar, T.n_Grammar_known, gfs_known _ _ _, kn, _, rfl, .inl (SqL.of h2), fun l hl => q l _ hl (same_new hl) upd_same⟩
def sp_G_has (C : Addr) : Sp := fun vs H Q _ => ∃ (g : Addr) (names : List Str) (rs : List Rule) (n : Str), vs = [.ref g, .str n] ∧ GramAt C H g names rs ∧ Q (.bl (decide (n ∈ names))) H
theorem ok_Grammar_has (T : Txt K mg A) : FnOk P w K mg base CX0 1 A.a_Grammar_has A.d_Grammar_has ["self", "name"] (sp_G_has A.c_Grammar) := by
  refine T.F_Grammar_has.ok sc_Grammar_has (fun vs H Q E h => ?_) (fun cdv A0 outer s H vs Q E hr h => ?_)
  · obtain ⟨g, _, _, _, rfl, _⟩ := h
    rfl
  · obtain ⟨g, names, rs, n, rfl, G, q⟩ := h
    have hu := hu_of hr
    obtain ⟨dx, kn, st, od, ls, h1, h2, h3, h4⟩ := G.ex
    refine ⟨_, (pss_one (ps_ret (pe_cmp (pc_din hu (pv 1) (pe_fld (pv 0) rfl)) rfl))), ?_⟩
    refine ⟨_, rfl, _, rfl, g, _, _, _, _, rfl, h1, T.cl_Grammar, T.n_Grammar_stored, gfs_stored _ _ _, st, _, rfl, DGet.k (k := Sum.inr n) h3.1, ?_⟩
    rcases h3.look n with ⟨e, f⟩ | ⟨i, l, _, _, e, f, _⟩
    · rw [decide_eq_false f] at q
      rw [e]
      exact q
    · rw [decide_eq_true f] at q
      rw [e]
      exact q
def RowN (H H' : Hp) (D t : Addr) (r : Str × List Str) : Prop := H t = none ∧ t ≠ D ∧ ∃ w, H w = none ∧ w ≠ D ∧ H' t = some (.tup [.str r.1, .ref w]) ∧ H' w = some (.lst (r.2.map V.str))
def TrioN (H H' : Hp) (D me t : Addr) (r : Rule) : Prop := H t = none ∧ t ≠ D ∧ t ≠ me ∧ ∃ w, H w = none ∧ w ≠ D ∧ w ≠ me ∧ H' t = some (.tup [.str r.1, .str r.2.1, .ref w]) ∧ H' w = some (.lst (r.2.2.map V.str))
def sp_G_rules_of (C : Addr) : Sp := fun vs H Q _ => ∃ (g : Addr) (names : List Str) (rs : List Rule) (n : Str), vs = [.ref g, .str n] ∧ GramAt C H g names rs ∧ n ∈ names ∧ (rulesOf rs n).length ≤ 1000 ∧ ∀ p H', NewRows H H' p (rulesOf rs n) → Q (.ref p) H'
theorem ok_Grammar_rules_of (T : Txt K mg A) : FnOk P w K mg base CX0 1 A.a_Grammar_rules_of A.d_Grammar_rules_of ["self", "name"] (sp_G_rules_of A.c_Grammar) := by
  refine T.F_Grammar_rules_of.ok sc_Grammar_rules_of (fun vs H Q E h => ?_) (fun cdv A0 outer s H vs Q E hr h => ?_)
  · obtain ⟨g, _, _, _, rfl, _⟩ := h
    rfl
  · obtain ⟨g, names, rs, n, rfl, G, hn, hlen, q⟩ := h
    have hu := hu_of hr
    obtain ⟨dx, kn, st, od, ls, h1, h2, h3, h4⟩ := G.ex
    refine ⟨_, (pss_one (ps_ret (pe_lc (own := [("letter", 2), ("row", 3)]) (g := gTup K 2 (gCons (gName 2) (gCons (gName 3) gNil))) (by rfl) sc_Grammar_rules_of.nd (pi_list (pe_dget hu (pe_fld (pv 0) rfl) (pv 1) (fun _ _ => rfl))) (blkOk_by (own := [("letter", 2), ("row", 3)]) (N := ["self", "name", "letter", "row"]) (sc := defScope s_Grammar_rules_of) (by decide +kernel)) (fun _ _ _ _ _ => (pg_tup (by rfl) (pgs_cons (pg_name (i := 2) sc_Grammar_rules_of.nd rfl (Or.inl rfl)) (pgs_cons (pg_name (i := 3) sc_Grammar_rules_of.nd rfl (Or.inl rfl)) pgs_nil)))) (fun _ _ _ _ _ => pts_nil) (fun _ _ _ _ _ => (pe_tup (pa_cons (pv 2) (pa_cons (pe_callTy (T := "list") (r := Evl.rListS K) call_list_of (by rfl) T.list_ (by decide +kernel) (pa_cons (pv 3) pa_nil)) pa_nil))))))), ?_⟩
    rcases h3.look n with ⟨_, f⟩ | ⟨i, l, _, _, e, _, ts, ht, hp⟩
    · exact absurd hn f
    have hts : ts.length = (rulesOf rs n).length := paired_len hp
    refine ⟨_, rfl, g, _, _, _, _, rfl, h1, T.cl_Grammar, T.n_Grammar_stored, gfs_stored _ _ _, _, rfl, st, _, rfl, .inl ⟨_, Sum.inr n, .inl h3.1, rfl, e.symm⟩, l, rfl, ⟨_, SqL.of ht⟩, fun D hD => lc_list (K := K) (a := l) (xs := ts.map V.ref)
      (fun i H' => Same H H' ∧ ∃ us : List Addr, H' D = some (.lst (us.map V.ref)) ∧ Paired (RowN H H' D) us ((rulesOf rs n).take i)) ?_ ?_ ?_ ?_⟩
    · exact ⟨same_new hD, [], upd_same, .nil⟩
    · rintro i H' _ ⟨sm, _⟩
      exact SqL.of (sm _ _ ht)
    · rintro i x H' hi ⟨sm, us, hu1, hu2⟩
      obtain ⟨t, hti, rfl⟩ := map_at hi
      obtain ⟨r, hr1, w0, hw1, hw2⟩ := paired_get hp hti
      refine ⟨t, _, rfl, SqT.of (sm _ _ hw1), rfl, _, _, rfl, _, _, rfl, rfl, rfl, tyes (iteT ?_)⟩
      refine ⟨_, rfl, _, rfl, w0, _, rfl, .inl (SqL.of (sm _ _ hw2)), fun w hw => ⟨sl2 (by show 2 ≤ 1000000; decide), fun u hu3 => ?_⟩⟩
      have nwD : w ≠ D := fun z => by rw [z, hu1] at hw; cases hw
      have sm1 := (same_new hw (o := .lst (r.2.map V.str))).trans (same_new hu3 (o := .tup [.str r.1, .ref w]))
      have nuD : u ≠ D := fun z => by rw [z, same_new hw _ _ hu1] at hu3; cases hu3
      have sm2 := sm.trans sm1
      refine ⟨_, sm1 _ _ hu1, by rw [List.length_map, paired_len hu2, List.length_take]; exact sl1 (by omega), same_mut sm2 hD, us ++ [u], by rw [upd_same, List.map_append]; rfl, ?_⟩
      rw [take_snoc hr1]
      have hwU : (upd (upd H' w (.lst (r.2.map V.str))) u (.tup [.str r.1, .ref w])) w = some (.lst (r.2.map V.str)) := by rw [upd_ne (ne_of_none upd_same hu3), upd_same]
      refine paired_app (F := RowN H _ D) ⟨sm.free (Same.free (same_new hw) hu3), nuD, w, sm.free hw, nwD, ?_, ?_⟩ (Paired.mapP hu2 fun t r ⟨a1, a2, w, a3, a4, a5, a6⟩ => ⟨a1, a2, w, a3, a4, ?_, ?_⟩)
      · rw [upd_ne nuD, upd_same]
      · rw [upd_ne nwD]; exact hwU
      · rw [upd_ne a2]; exact sm1 _ _ a5
      · rw [upd_ne a4]; exact sm1 _ _ a6
    · rintro H' ⟨sm, us, hu1, hu2⟩
      rw [List.length_map, hts, List.take_length] at hu2
      exact q D H' ⟨hD, sm, us, hu1, Paired.mapP hu2 fun t r ⟨a1, _, w, a3, _, a5, a6⟩ => ⟨a1, w, a3, a5, a6⟩⟩
/-- how often a name stood -/
def cntN (ns : List Str) (n : Str) : Nat := (ns.filter fun x => decide (x = n)).length
theorem cntN_snoc (ns : List Str) (x n : Str) : cntN (ns ++ [x]) n = if x = n then cntN ns n + 1 else cntN ns n := by
  unfold cntN
  rw [List.filter_append, List.length_append]
  by_cases e : x = n
  · simp [e]
  · simp [e]
theorem rulesOf_at : ∀ {rs : List Rule} {i : Nat} {r : Rule}, rs[i]? = some r → (rulesOf rs r.1)[cntN ((rs.take i).map (·.1)) r.1]? = some r.2
  | [], i, r, h => by simp at h
  | x :: rs, 0, r, h => by
    have e : x = r := Option.some.inj h
    subst e
    unfold rulesOf cntN
    simp
  | x :: rs, i + 1, r, h => by
    have ih := rulesOf_at (rs := rs) (i := i) (r := r) (by simpa using h)
    rw [List.take_succ_cons, List.map_cons]
    unfold rulesOf cntN at *
    by_cases e : x.1 = r.1
    · simp only [List.filter_cons, e, decide_true, if_true, List.map_cons, List.length_cons, List.getElem?_cons_succ]
      exact ih
    · simp only [List.filter_cons, e, decide_false, Bool.false_eq_true, if_false]
      exact ih
/-- met: how often each name stood so far -/
def MetAt (kvs : List (Key × V)) (ns : List Str) : Prop := ∀ n : Str, (cntN ns n = 0 → valV kvs (Sum.inr n : Key) = none) ∧ (cntN ns n ≠ 0 → valV kvs (Sum.inr n : Key) = some (.int (cntN ns n)))
def sp_G_rules (C : Addr) : Sp := fun vs H Q _ => ∃ (g : Addr) (names : List Str) (rs : List Rule), vs = [.ref g] ∧ GramAt C H g names rs ∧ (∀ r ∈ rs, r.1 ∈ names) ∧ rs.length ≤ 1000 ∧ ∀ p H', NewTrios H H' p rs → Q (.ref p) H'
theorem ok_Grammar_rules (T : Txt K mg A) : FnOk P w K mg base CX0 1 A.a_Grammar_rules A.d_Grammar_rules ["self"] (sp_G_rules A.c_Grammar) := by
  refine T.F_Grammar_rules.ok sc_Grammar_rules (fun vs H Q E h => ?_) (fun cdv A0 outer s H vs Q E hr h => ?_)
  · obtain ⟨g, _, _, rfl, _⟩ := h
    rfl
  · obtain ⟨g, names, rs, rfl, G, hin, hlen, q⟩ := h
    have hu := hu_of hr
    obtain ⟨dx, kn, st, od, ls, h1, h2, h3, h4⟩ := G.ex
    refine ⟨_, (pss_cons (ps_set (i := 1) sc_Grammar_rules.nd rfl (Or.inl rfl) pe_dnewK)
 (pss_cons (ps_set (i := 2) sc_Grammar_rules.nd rfl (Or.inl rfl) (pe_lst pa_nil))
 (pss_cons (ps_for PassesOwn.never rfl (pi_list (pe_fld (pv 0) rfl)) (pg_name (i := 3) sc_Grammar_rules.nd rfl (Or.inl rfl))
 (pss_cons (ps_set (i := 4) sc_Grammar_rules.nd rfl (Or.inl rfl) (pe_dget2 hu (pv 1) (pv 3) pe_int ⟨rfl, rfl, rfl, rfl⟩))
 (pss_cons (ps_dput hu (pv 1) (pv 3) (pe_op op_add (pv 4) pe_int) rfl)
 (pss_cons (ps_asg (pe_ix (r := rIxL K) ix_list (pe_dget hu (pe_fld (pv 0) rfl) (pv 3) (fun _ _ => rfl)) (pv 4) (fun _ _ => rfl)) (pg_tup (by rfl) (pgs_cons (pg_name (i := 5) sc_Grammar_rules.nd rfl (Or.inl rfl)) (pgs_cons (pg_name (i := 6) sc_Grammar_rules.nd rfl (Or.inl rfl)) pgs_nil))))
 (pss_one (ps_expr (pe_bm PySem.F.plainAttrs_list PySem.F.slot_list_append PySem.F.type_list_append mt_append (pv 2) (pa_cons (pe_tup (pa_cons (pv 3) (pa_cons (pv 5) (pa_cons (pe_callTy (T := "list") (r := Evl.rListS K) call_list_of (by rfl) T.list_ (by decide +kernel) (pa_cons (pv 6) pa_nil)) pa_nil)))) pa_nil))))))))
 (pss_one (ps_ret (pv 2)))))), ?_⟩
    intro me hme
    refine ⟨Nat.zero_le _, fun D hD => ?_⟩
    have nmD : me ≠ D := ne_of_none upd_same hD
    have hD0 : H D = none := (same_new hme).free hD
    have sm0 : Same H (upd (upd H me (.dK [])) D (.lst [])) := (same_new hme).trans (same_new hD)
    refine ⟨_, rfl, g, _, _, _, _, rfl, sm0 _ _ h1, T.cl_Grammar, T.n_Grammar_order, gfs_order _ _ _, od, rfl, ⟨_, SqL.of (sm0 _ _ h4)⟩, for_list (K := K) (a := od) (xs := (rs.map (·.1)).map V.str)
      (fun i σ' H' => ∃ (x3 x4 x5 x6 : Option V) (kvs : List (Key × V)) (us : List Addr), σ' = [some (.ref g), some (.ref me), some (.ref D), x3, x4, x5, x6] ∧ Same H H' ∧ H' me = some (.dK kvs) ∧ MetAt kvs ((rs.take i).map (·.1)) ∧ kvs.length ≤ i ∧ H' D = some (.lst (us.map V.ref)) ∧
        Paired (TrioN H H' D me) us (rs.take i)) ?_ ?_ ?_ ?_⟩
    · exact ⟨none, none, none, none, [], [], rfl, sm0, by rw [upd_ne nmD, upd_same], fun n => ⟨fun _ => rfl, fun h => absurd rfl h⟩, Nat.le_refl _, upd_same, .nil⟩
    · rintro i σ' H' _ ⟨_, _, _, _, _, _, rfl, sm, _⟩
      exact SqL.of (sm _ _ h4)
    · rintro i x σ' H1 hi ⟨x3, x4, x5, x6, kvs, us, rfl, sm, hm, hM, hk, hu1, hu2⟩
      obtain ⟨n, hn, rfl⟩ := map_at hi
      rw [List.getElem?_map] at hn
      obtain ⟨r, hr1, rfl⟩ : ∃ r, rs[i]? = some r ∧ r.1 = n := by
        cases e : rs[i]? with
        | none => rw [e] at hn; cases hn
        | some r => rw [e] at hn; exact ⟨r, rfl, Option.some.inj hn⟩
      have hil := (List.getElem?_eq_some_iff.mp hr1).1
      have hat := rulesOf_at hr1
      generalize hc : cntN ((rs.take i).map (·.1)) r.1 = c at hat
      -- at = met.get(name, 0)
      have hget : ∃ o, DGet H1 me (.str r.1) o ∧ o.getD (.int 0) = .int (c : Int) := by
        refine ⟨valV kvs (Sum.inr r.1 : Key), DGet.k (k := Sum.inr r.1) hm, ?_⟩
        by_cases e : c = 0
        · rw [(hM r.1).1 (by rw [hc, e]), e]; rfl
        · rw [(hM r.1).2 (by rw [hc]; exact e), hc]; rfl
      obtain ⟨o, ho, eo⟩ := hget
      refine ⟨_, rfl, me, rfl, .inl ⟨kvs, .inl hm⟩, _, rfl, o, ho, ?_⟩
      rw [eo]
      -- met[name] = at + 1
      refine ⟨_, rfl, _, _, rfl, rfl, _, rfl, _, rfl, me, _, rfl, DPut.k (k := Sum.inr r.1) hm (sl1 (by omega)), ?_⟩
      generalize hkv : putK kvs (Sum.inr r.1 : Key) (V.int ((c : Int) + 1)) = kvs2
      have sm1 : Same H (upd H1 me (.dK kvs2)) := same_mut sm hme
      have hD1 : (upd H1 me (.dK kvs2)) D = some (.lst (us.map V.ref)) := by rw [upd_ne nmD.symm]; exact hu1
      -- letter, row = self.stored[name][at]
      rcases h3.look r.1 with ⟨_, f⟩ | ⟨j, l, _, _, el, _, ts, ht, hp⟩
      · exact absurd (hin r (List.mem_of_getElem? hr1)) f
      have hts : ts.length = (rulesOf rs r.1).length := paired_len hp
      have hcl := (List.getElem?_eq_some_iff.mp hat).1
      have htc : ts[c]? = some (ts[c]'(by omega)) := List.getElem?_eq_getElem (by omega)
      obtain ⟨w0, hw1, hw2⟩ := paired_ix hp htc hat
      refine ⟨_, rfl, g, _, _, _, _, rfl, sm1 _ _ h1, T.cl_Grammar, T.n_Grammar_stored, gfs_stored _ _ _, _, rfl, st, _, rfl, .inl ⟨_, Sum.inr r.1, .inl (sm1 _ _ h3.1), rfl, el.symm⟩, _, rfl, l, _, _, _, rfl, rfl, SqL.of (sm1 _ _ ht), atI_nat (by rw [List.getElem?_map, htc]; rfl), ?_⟩
      refine ⟨_, _, rfl, SqT.of (sm1 _ _ hw1), rfl, _, _, rfl, _, _, rfl, rfl, ?_⟩
      -- found.append((name, letter, list(row)))
      refine ⟨_, rfl, .inl ⟨rfl, _, SqL.of hD1⟩, _, rfl, _, rfl, _, rfl, w0, _, rfl, .inl (SqL.of (sm1 _ _ hw2)), fun w hw => ⟨sl2 (by show 3 ≤ 1000000; decide), fun u hu3 => ?_⟩⟩
      have sm2 := (same_new hw (o := .lst (r.2.2.map V.str))).trans (same_new hu3 (o := .tup [.str r.1, .str r.2.1, .ref w]))
      have hme1 : (upd H1 me (.dK kvs2)) me = some (.dK kvs2) := upd_same
      have nwD : w ≠ D := fun z => by rw [z, hD1] at hw; cases hw
      have nwm : w ≠ me := fun z => by rw [z, hme1] at hw; cases hw
      have nuD : u ≠ D := fun z => by rw [z, same_new hw _ _ hD1] at hu3; cases hu3
      have num : u ≠ me := fun z => by rw [z, same_new hw _ _ hme1] at hu3; cases hu3
      have hDu := sm2 _ _ hD1
      have hwU : (upd (upd (upd H1 me (.dK kvs2)) w (.lst (r.2.2.map V.str))) u (.tup [.str r.1, .str r.2.1, .ref w])) w = some (.lst (r.2.2.map V.str)) := by rw [upd_ne (ne_of_none upd_same hu3), upd_same]
      refine ⟨D, _, _, rfl, rfl, hDu, by rw [List.length_map, paired_len hu2, List.length_take]; exact sl1 (by omega), ?_⟩
      refine ⟨_, _, _, _, kvs2, us ++ [u], rfl, same_mut (sm1.trans sm2) hD0, by rw [upd_ne nmD]; exact sm2 _ _ hme1, ?_, ?_, by rw [upd_same, List.map_append]; rfl, ?_⟩
      · intro n
        rw [take_snoc hr1, List.map_append, List.map_cons, List.map_nil, cntN_snoc, ← hkv, valV_put]
        by_cases e : r.1 = n
        · subst e
          rw [if_pos rfl, if_pos rfl, hc]
          exact ⟨fun z => by omega, fun _ => by push_cast; rfl⟩
        · rw [if_neg e, if_neg (fun z => e (Sum.inr.inj z).symm)]
          exact hM n
      · rw [← hkv]
        have := putK_le kvs (Sum.inr r.1 : Key) (V.int ((c : Int) + 1))
        omega
      · rw [take_snoc hr1]
        refine paired_app (F := TrioN H _ D me) ⟨sm1.free (Same.free (same_new hw) hu3), nuD, num, w, sm1.free hw, nwD, nwm, ?_, ?_⟩ (Paired.mapP hu2 fun t r ⟨a1, a2, a2m, w, a3, a4, a4m, a5, a6⟩ => ⟨a1, a2, a2m, w, a3, a4, a4m, ?_, ?_⟩)
        · rw [upd_ne nuD, upd_same]
        · rw [upd_ne nwD]; exact hwU
        · rw [upd_ne a2]; exact sm2 _ _ (by rw [upd_ne a2m]; exact a5)
        · rw [upd_ne a4]; exact sm2 _ _ (by rw [upd_ne a4m]; exact a6)
    · rintro σ' H1 ⟨x3, x4, x5, x6, kvs, us, rfl, sm, hm, hM, hk, hu1, hu2⟩
      rw [List.length_map, List.length_map, List.take_length] at hu2
      exact ⟨_, rfl, q D H1 ⟨hD0, sm, us, hu1, Paired.mapP hu2 fun t r ⟨a1, _, _, w, a3, _, _, a5, a6⟩ => ⟨a1, w, a3, a5, a6⟩⟩⟩
end
section
variable {P : Program} {w : World} {K : PySem.W.Frag} {mg : Str → Option Value} {base : Heap} {A : Ad}
/-! ### making -/
theorem dec_any {p : Prop} (i j : Decidable p) : @decide p i = @decide p j := by rw [Subsingleton.elim i j]
def RuleX (H0 H : Hp) (bad : List Addr) (t : Addr) (p : Str × List Str) : Prop := H0 t = none ∧ ∃ w, H0 w = none ∧ w ∉ bad ∧ H t = some (.tup [.str p.1, .ref w]) ∧ H w = some (.lst (p.2.map V.str))
def ListX (H0 H : Hp) (bad : List Addr) (l : Addr) (ps : List (Str × List Str)) : Prop := ∃ ts : List Addr, H l = some (.lst (ts.map V.ref)) ∧ Paired (RuleX H0 H bad) ts ps
structure Bld (C g dx kn st od : Addr) (H H' : Hp) (names : List Str) (ls : List Addr) (rs : List Rule) : Prop where
  base : ∀ b o, H b = some o → b ≠ g → H' b = some o
  ins : H' g = some (.ins C dx (gfs kn st od))
  hkn : H' kn = some (.lst (names.map V.str))
  sd : H' st = some (.dK (zipK names ls))
  hod : H' od = some (.lst ((rs.map (·.1)).map V.str))
  nd : ls.Nodup
  frl : ∀ l ∈ ls, H l = none
  fro : H od = none
  frk : H kn = none
  frs : H st = none
  knb : kn ∉ od :: ls
  odl : od ∉ ls
  prs : Paired (fun n l => ListX H H' (od :: ls) l (rulesOf rs n)) names ls
theorem Bld.stored {C g dx kn st od : Addr} {H H' : Hp} {names : List Str} {ls : List Addr} {rs : List Rule} (b : Bld C g dx kn st od H H' names ls rs) : StoredAt H' st names ls (rulesOf rs) :=
  ⟨b.sd, Paired.mapP b.prs fun _ _ ⟨ts, h1, h2⟩ => ⟨ts, h1, Paired.mapP h2 fun _ _ ⟨_, w, _, _, h3, h4⟩ => ⟨w, h3, h4⟩⟩, b.nd⟩
/-- new things are laid -/
theorem Bld.same {C g dx kn st od : Addr} {H H' H2 : Hp} {names : List Str} {ls : List Addr} {rs : List Rule} (b : Bld C g dx kn st od H H' names ls rs) (e : Same H' H2) : Bld C g dx kn st od H H2 names ls rs where
  base := fun x o h n => e _ _ (b.base x o h n)
  ins := e _ _ b.ins
  hkn := e _ _ b.hkn
  sd := e _ _ b.sd
  hod := e _ _ b.hod
  nd := b.nd
  frl := b.frl
  fro := b.fro
  frk := b.frk
  frs := b.frs
  knb := b.knb
  odl := b.odl
  prs := Paired.mapP b.prs fun _ _ ⟨ts, h1, h2⟩ => ⟨ts, e _ _ h1, Paired.mapP h2 fun _ _ ⟨a0, w, b0, h0, h3, h4⟩ => ⟨a0, w, b0, h0, e _ _ h3, e _ _ h4⟩⟩
theorem paired_all {α β : Type} {F : α → β → Prop} : ∀ {xs : List α} {ys : List β}, xs.length = ys.length → (∀ (i : Nat) x y, xs[i]? = some x → ys[i]? = some y → F x y) → Paired F xs ys
  | [], [], _, _ => .nil
  | x :: xs, y :: ys, h, k => .cons (k 0 x y rfl rfl) (paired_all (by simpa using h) fun i a b h1 h2 => k (i + 1) a b h1 h2)
theorem Bld.fresh {C g dx kn st od : Addr} {H H' : Hp} {names : List Str} {ls : List Addr} {rs : List Rule} (b : Bld C g dx kn st od H H' names ls rs) {x : Addr} (h : H' x = none) : H x = none := by
  cases e : H x with
  | none => rfl
  | some o =>
    by_cases n : x = g
    · rw [n, b.ins] at h; cases h
    · rw [b.base x o e n] at h; cases h
/-- what lies in cells of its own stays, whatever becomes of the others -/
theorem Bld.keep {C g dx kn st od : Addr} {H H' H2 : Hp} {names : List Str} {ls : List Addr} {rs : List Rule} (b : Bld C g dx kn st od H H' names ls rs) (e : ∀ a o, H' a = some o → a = g ∨ H a = none → H2 a = some o) : GramAt C H2 g names rs :=
  ⟨dx, kn, st, od, ls, e _ _ b.ins (.inl rfl), e _ _ b.hkn (.inr b.frk), ⟨e _ _ b.sd (.inr b.frs), paired_all (paired_len b.prs) fun i n l h1 h2 => by
    obtain ⟨ts, g1, g2⟩ := paired_ix b.prs h1 h2
    exact ⟨ts, e _ _ g1 (.inr (b.frl l (List.mem_of_getElem? h2))), Paired.mapP g2 fun t p ⟨a0, w, b0, _, h3, h4⟩ => ⟨w, e _ _ h3 (.inr a0), e _ _ h4 (.inr b0)⟩⟩, b.nd⟩, e _ _ b.hod (.inr b.fro)⟩
/-- a rule's tuple is put behind those of its name, and its name behind the order -/
theorem Bld.put {C g dx kn st od : Addr} {H H' H2 : Hp} {names : List Str} {ls : List Addr} {rs : List Rule} (b : Bld C g dx kn st od H H' names ls rs) {r : Rule} {l t w : Addr} {j : Nat} {ts : List Addr} (nN : names.Nodup) (hj : names[j]? = some r.1) (hl : ls[j]? = some l) (hts : H' l = some (.lst (ts.map V.ref)))
    (ht0 : H t = none) (hw0 : H w = none) (ht : H' t = some (.tup [.str r.2.1, .ref w])) (hw : H' w = some (.lst (r.2.2.map V.str))) (hwb : w ∉ od :: ls) (e2 : H2 = upd (upd H' l (.lst (ts.map V.ref ++ [.ref t]))) od (.lst ((rs.map (·.1)).map V.str ++ [.str r.1]))) : Bld C g dx kn st od H H2 names ls (rs ++ [r]) := by
  have hlm : l ∈ ls := List.mem_of_getElem? hl
  have nlo : l ≠ od := fun z => b.odl (z ▸ hlm)
  have kp : ∀ (x : Addr) (o : HO), H' x = some o → x ≠ l → x ≠ od → H2 x = some o := fun x o h n1 n2 => by rw [e2, upd_ne n2, upd_ne n1]; exact h
  have hl2 : H2 l = some (.lst ((ts ++ [t]).map V.ref)) := by rw [e2, upd_ne nlo, upd_same, List.map_append]; rfl
  have tup_kp : ∀ (x : Addr) (vs : List V), H' x = some (.tup vs) → H2 x = some (.tup vs) := fun x vs h => kp x _ h (ne_of h hts (by intro z; cases z)) (ne_of h b.hod (by intro z; cases z))
  have nb : ∀ {x : Addr}, x ∉ od :: ls → x ≠ l ∧ x ≠ od := fun h => ⟨fun z => h (z ▸ List.mem_cons_of_mem _ hlm), fun z => h (z ▸ List.mem_cons_self)⟩
  have hkn := nb b.knb
  have rk : ∀ (t : Addr) (p : Str × List Str), RuleX H H' (od :: ls) t p → RuleX H H2 (od :: ls) t p := fun t p ⟨a0, w, b0, h0, h1, h2⟩ => ⟨a0, w, b0, h0, tup_kp _ _ h1, kp _ _ h2 (nb h0).1 (nb h0).2⟩
  refine ⟨fun x o h n => kp x o (b.base x o h n) (ne_of_none h (b.frl l hlm)) (ne_of_none h b.fro), kp _ _ b.ins (ne_of b.ins hts (by intro z; cases z)) (ne_of b.ins b.hod (by intro z; cases z)), kp _ _ b.hkn hkn.1 hkn.2, kp _ _ b.sd (ne_of b.sd hts (by intro z; cases z)) (ne_of b.sd b.hod (by intro z; cases z)), by rw [e2, upd_same, List.map_append, List.map_append]; rfl, b.nd, b.frl, b.fro, b.frk, b.frs, b.knb, b.odl, ?_⟩
  refine paired_all (paired_len b.prs) fun i n l' h1 h2 => ?_
  obtain ⟨ts', g1, g2⟩ := paired_ix b.prs h1 h2
  rw [rulesOf_snoc]
  by_cases e : i = j
  · subst e
    rw [hj] at h1
    rw [hl] at h2
    have en := Option.some.inj h1
    have el := Option.some.inj h2
    subst en el
    rw [if_pos rfl]
    rw [hts] at g1
    have ets : ts' = ts := by
      have := HO.lst.inj (Option.some.inj g1)
      have inj : ∀ {a b : List Addr}, a.map V.ref = b.map V.ref → a = b := fun {a b} h => by
        refine List.map_inj_right (fun x y q => V.ref.inj q) |>.mp h
      exact (inj this).symm
    subst ets
    exact ⟨ts' ++ [t], hl2, paired_app (F := RuleX H H2 (od :: ls)) ⟨ht0, w, hw0, hwb, tup_kp _ _ ht, kp _ _ hw (nb hwb).1 (nb hwb).2⟩ (Paired.mapP g2 fun t p h => rk t p h)⟩
  · have ne1 : ¬ r.1 = n := fun z => e (nd_ix nN h1 (z ▸ hj))
    have ne2 : l' ≠ l := fun z => e (nd_ix b.nd h2 (z ▸ hl))
    rw [if_neg ne1]
    exact ⟨ts', kp _ _ g1 ne2 (fun z => b.odl (z ▸ List.mem_of_getElem? h2)), Paired.mapP g2 fun t p h => rk t p h⟩
def sp_lets_by (C : Addr) : Sp := fun vs H Q _ => ∃ (g t dx kn st od : Addr) (ls : List Addr) (names : List Str) (rs : List Rule) (r : Rule), vs = [.ref g, .ref t] ∧ H g = some (.ins C dx (gfs kn st od)) ∧ StoredAt H st names ls (rulesOf rs) ∧ TrioAt H t r ∧ r.2.1.length ≤ 1000000 ∧ r.2.2.length ≤ 1000 ∧ (rulesOf rs r.1).length ≤ 1000 ∧
  ∀ H', Same H H' → Q (.bl (letsBy names rs r)) H'
theorem ok_Grammar_lets_by (T : Txt K mg A) : FnOk P w K mg base CX0 3 A.a_Grammar_lets_by A.d_Grammar_lets_by ["self", "rule"] (sp_lets_by A.c_Grammar) := by
  have G_is_letter : FnOk P w K mg base CX0 2 A.a_is_letter A.d_is_letter ["text"] sp_is_letter := ok_is_letter T
  refine T.F_Grammar_lets_by.ok sc_Grammar_lets_by (fun vs H Q E h => ?_) (fun cdv A0 outer s H vs Q E hr h => ?_)
  · obtain ⟨g, t, _, _, _, _, _, _, _, _, rfl, _⟩ := h
    rfl
  · obtain ⟨g, t, dx, kn, st, od, ls, names, rs, ⟨n, c, row⟩, rfl, hg, hst, ⟨w0, ht, hw0⟩, hc, hrow, hrl, q⟩ := h
    dsimp only at ht hw0 hc hrow hrl
    have hu := hu_of hr
    have hu64 := hu64_of hr
    refine ⟨_, (pss_cons (ps_asg (pv 1) (pg_tup (by rfl) (pgs_cons (pg_name (i := 2) sc_Grammar_lets_by.nd rfl (Or.inl rfl)) (pgs_cons (pg_name (i := 3) sc_Grammar_lets_by.nd rfl (Or.inl rfl)) (pgs_cons (pg_name (i := 4) sc_Grammar_lets_by.nd rfl (Or.inl rfl)) pgs_nil)))))
 (pss_cons (ps_if (PW.pt (pw_or (pt_cmp (pc_dnotin hu (pv 2) (pe_fld (pv 0) rfl))) (pw_or (pt_not (pt_val (pe_call G_is_letter (hr.mono (by decide)) (by rfl) T.g_is_letter T.F_is_letter.kp T.b_is_letter .nil pass0 (pa_cons (pv 3) pa_nil)))) (pw_or1 (pt_cmpR op_gt (pe_callB (id := "len") (r := Evl.rLenS K) call_len_seq (by rfl) T.len (by decide +kernel) (pa_cons (pv 4) pa_nil)) (pe_glob (v := .int 3) (by rfl) T.c_MOST_ROW.choose_spec ⟨_, rfl⟩) (nomark _)))))) (pss_one (ps_ret pe_bl)) pss_nil)
 (pss_cons (ps_if (pt_not (pt_val (pe_callB (id := "all") (r := rAll K) (cr_all rfl) (by rfl) T.all (by decide +kernel) (pa_cons (pe_lc (own := [("one", 5)]) (g := gName 5) (by rfl) sc_Grammar_lets_by.nd (pi_list (pv 4)) (blkOk_by (own := [("one", 5)]) (N := ["self", "rule", "name", "letter", "row", "one"]) (sc := defScope s_Grammar_lets_by) (by decide +kernel)) (fun _ _ _ _ _ => (pg_name (i := 5) sc_Grammar_lets_by.nd rfl (Or.inl rfl))) (fun _ _ _ _ _ => pts_nil) (fun _ _ _ _ _ => (pe_cmp (pc_din hu (pv 5) (show PE _ _ (tFld K _ _) from (pe_fld (pv 0) rfl))) rfl))) pa_nil)))) (pss_one (ps_ret pe_bl)) pss_nil)
 (pss_one (ps_ret (pe_and (pe_cmpR op_lt (pe_callB (id := "len") (r := Evl.rLenS K) call_len_seq (by rfl) T.len (by decide +kernel) (pa_cons (pe_dget hu (pe_fld (pv 0) rfl) (pv 2) (fun _ _ => rfl)) pa_nil)) (pe_glob (v := .int 4) (by rfl) T.c_MOST_RULES.choose_spec ⟨_, rfl⟩) (nomark _)) (pe_one (pe_cmpR (r := rNotInP K) (op_notInP hu64) (pe_tup (pa_cons (pv 3) (pa_cons (pe_callTy (T := "list") (r := Evl.rListS K) call_list_of (by rfl) T.list_ (by decide +kernel) (pa_cons (pv 4) pa_nil)) pa_nil))) (pe_dget hu (pe_fld (pv 0) rfl) (pv 2) (fun _ _ => rfl)) (by rfl))))))))), ?_⟩
    have no : ∀ {H' : Hp}, Same H H' → letsBy names rs (n, c, row) = false → Q (.bl false) H' := fun sm e => by rw [← e]; exact q _ sm
    refine ⟨_, rfl, t, _, rfl, SqT.of ht, rfl, _, _, rfl, _, _, rfl, _, _, rfl, rfl, ?_⟩
    -- name not in self.stored
    refine ⟨_, rfl, _, rfl, g, _, _, _, _, rfl, hg, T.cl_Grammar, T.n_Grammar_stored, gfs_stored _ _ _, st, _, rfl, DGet.k (k := Sum.inr n) hst.1, _, rfl, ?_⟩
    rcases hst.look n with ⟨e, f⟩ | ⟨j, l, hj, hl, e, f, hL⟩
    · rw [e]
      refine iteT (no (Same.refl _) ?_)
      unfold letsBy
      rw [decide_eq_false f]
      rfl
    rw [e]
    refine iteF ?_
    -- not is_letter(letter)
    refine ⟨_, rfl, c, rfl, hc, fun H1 sm1 => ⟨_, rfl, iteB (fun h2 => ?_) (fun h2 => ?_)⟩⟩
    · refine no sm1 ?_
      have : isLetter c = false := by simpa using h2
      unfold letsBy
      simp [this]
    have hlet : isLetter c = true := by simpa using h2
    -- len(row) > MOST_ROW
    refine ⟨_, rfl, w0, _, rfl, .inl (SqL.of (sm1 _ _ hw0)), _, _, rfl, rfl, _, rfl, iteB (fun h3 => ?_) (fun h3 => ?_)⟩
    · refine no sm1 ?_
      have h3' : (3 : Int) < ((row.map V.str).length : Nat) := of_decide_eq_true h3
      rw [List.length_map] at h3'
      have : ¬ row.length ≤ 3 := by omega
      unfold letsBy
      simp [this]
    have h3' : ¬ (3 : Int) < ((row.map V.str).length : Nat) := of_decide_eq_false h3
    rw [List.length_map] at h3'
    have hrl3 : row.length ≤ 3 := by omega
    -- all([one in self.stored for one in row])
    refine ⟨_, rfl, w0, rfl, ⟨_, SqL.of (sm1 _ _ hw0)⟩, fun D hD => lc_scal (K := K) (ys := (row.map fun x => decide (x ∈ names)).map V.bl) (SqL.of (sm1 _ _ hw0)) hD (by simp) (by rw [List.length_map]; omega) (fun _ => rfl) (fun i x y H' Q' g1 g2 sm k => ?_) (fun H2 sm2 hl2 => ?_)⟩
    · obtain ⟨x, hx, rfl⟩ := map_at g1
      rw [List.map_map] at g2
      have ey := map_get hx g2
      subst ey
      have smx := sm1.trans sm
      refine ⟨_, rfl, _, rfl, g, _, _, _, _, rfl, smx _ _ hg, T.cl_Grammar, T.n_Grammar_stored, gfs_stored _ _ _, st, _, rfl, DGet.k (k := Sum.inr x) (smx _ _ hst.1), ?_⟩
      have fin := k H' (Same.refl _)
      rcases hst.look x with ⟨e, f⟩ | ⟨_, _, _, _, e, f, _⟩
      · rw [e]
        show Q' (V.bl false) H'
        have : (V.bl ∘ fun x => decide (x ∈ names)) x = V.bl false := by show V.bl (decide (x ∈ names)) = _; rw [decide_eq_false f]
        rw [this] at fin
        exact fin
      · rw [e]
        show Q' (V.bl true) H'
        have : (V.bl ∘ fun x => decide (x ∈ names)) x = V.bl true := by show V.bl (decide (x ∈ names)) = _; rw [decide_eq_true f]
        rw [this] at fin
        exact fin
    have smx := sm1.trans sm2
    refine ⟨D, _, rfl, SqL.of hl2, _, rfl, iteB (fun h4 => ?_) (fun h4 => ?_)⟩
    · refine no smx ?_
      have : (row.all fun x => decide (x ∈ names)) = false := by rw [List.all_map] at h4; simpa using h4
      unfold letsBy
      rw [this]
      simp
    have hall : (row.all fun x => decide (x ∈ names)) = true := by rw [List.all_map] at h4; simpa using h4
    -- the rest
    obtain ⟨ts, ht1, ht2⟩ := hL
    have htl : ts.length = (rulesOf rs n).length := paired_len ht2
    refine ⟨_, rfl, g, _, _, _, _, rfl, smx _ _ hg, T.cl_Grammar, T.n_Grammar_stored, gfs_stored _ _ _, _, rfl, st, _, rfl, .inl ⟨_, Sum.inr n, .inl (smx _ _ hst.1), rfl, e.symm⟩, l, _, rfl, .inl (SqL.of (smx _ _ ht1)), _, _, rfl, rfl, _, rfl, iteB (fun h5 => ?_) (fun h5 => ?_)⟩
    · have h5' : ((ts.map V.ref).length : Int) < 4 := of_decide_eq_true h5
      rw [List.length_map, htl] at h5'
      refine ⟨_, rfl, _, rfl, w0, _, rfl, .inl (SqL.of (smx _ _ hw0)), fun w hw => ⟨sl2 (by show 2 ≤ 1000000; decide), fun u hu3 => ?_⟩⟩
      have sm3 := (same_new hw (o := .lst (row.map V.str))).trans (same_new hu3 (o := .tup [.str c, .ref w]))
      have smy := smx.trans sm3
      have hwU : (upd (upd H2 w (.lst (row.map V.str))) u (.tup [.str c, .ref w])) w = some (.lst (row.map V.str)) := by rw [upd_ne (ne_of_none upd_same hu3), upd_same]
      refine ⟨_, rfl, g, _, _, _, _, rfl, smy _ _ hg, T.cl_Grammar, T.n_Grammar_stored, gfs_stored _ _ _, _, rfl, st, _, rfl, .inl ⟨_, Sum.inr n, .inl (smy _ _ hst.1), rfl, e.symm⟩, ?_⟩
      refine ⟨eRow (c, row), (rulesOf rs n).map eRow, dp_row ⟨w, upd_same, hwU⟩, .inl (dp_rows (ListAt.same smy ⟨ts, ht1, ht2⟩)), Nat.le_trans (dep_Row _) (by decide), ?_⟩
      rw [any_enc enc_Row]
      have e9 : letsBy names rs (n, c, row) = !decide ((c, row) ∈ rulesOf rs n) := by
        unfold letsBy
        rw [hall]
        simp [f, hlet, hrl3, show (rulesOf rs n).length < 4 by omega]
      have z := q _ smy
      rw [e9] at z
      exact Eq.mp (congrArg (fun b => Q (V.bl (!b)) _) (dec_any _ _)) z
    · refine no smx ?_
      have h5' : ¬ ((ts.map V.ref).length : Int) < 4 := of_decide_eq_false h5
      rw [List.length_map, htl] at h5'
      have : ¬ (rulesOf rs n).length < 4 := by omega
      unfold letsBy
      rw [decide_eq_false this]
      simp
end
section
variable {P : Program} {w : World} {K : PySem.W.Frag} {mg : Str → Option Value} {base : Heap} {A : Ad}
theorem rulesOf_len (rs : List Rule) (n : Str) : (rulesOf rs n).length ≤ rs.length := by
  unfold rulesOf
  rw [List.length_map]
  exact List.length_filter_le _ _
theorem putK_fresh {names : List Str} {ls : List Addr} {n : Str} {l : Addr} (hl : names.length = ls.length) (h : n ∉ names) : putK (zipK names ls) (Sum.inr n : Key) (V.ref l) = zipK (names ++ [n]) (ls ++ [l]) := by
  have e : valV (zipK names ls) (Sum.inr n : Key) = none := by
    rcases zipK_val hl n with ⟨h1, _⟩ | ⟨_, _, _, _, _, h2⟩
    · exact h1
    · exact absurd h2 h
  rw [putK_new _ e]
  unfold zipK
  rw [List.zipWith_append hl]
  rfl
def sp_G_init (K : PySem.W.Frag) (C : Addr) : Sp := fun vs H Q _ => ∃ (g dx na ru : Addr) (names : List Str) (rs : List Rule), vs = [.ref g, .ref na, .ref ru] ∧ H g = some (.ins C dx []) ∧ H na = some (.lst (names.map V.str)) ∧ areNames names = true ∧ (∀ x ∈ names, x.length ≤ 1000000) ∧
  TriosAt H ru rs ∧ rulesOk names rs ∧ rs.length ≤ 100 ∧ (∀ r ∈ rs, r.2.1.length ≤ 1000000 ∧ r.2.2.length ≤ 1000) ∧ ∀ H', (∀ b o, H b = some o → b ≠ g → H' b = some o) → (∃ dx kn st od ls, Bld C g dx kn st od H H' names ls rs) → Q .non H'
theorem ok_Grammar___init__ (T : Txt K mg A) : FnOk P w K mg base CX0 4 A.a_Grammar___init__ A.d_Grammar___init__ ["self", "names", "rules"] (sp_G_init K A.c_Grammar) := by
  have G_are_names : FnOk P w K mg base CX0 3 A.a_are_names A.d_are_names ["names"] (sp_are_names K) := ok_are_names T
  have G_Grammar_lets_by : FnOk P w K mg base CX0 3 A.a_Grammar_lets_by A.d_Grammar_lets_by ["self", "rule"] (sp_lets_by A.c_Grammar) := ok_Grammar_lets_by T
  refine T.F_Grammar___init__.ok sc_Grammar___init__ (fun vs H Q E h => ?_) (fun cdv A0 outer s H vs Q E hr h => ?_)
  · obtain ⟨g, _, _, _, _, _, rfl, _⟩ := h
    rfl
  · obtain ⟨g, dx, na, ru, names, rs, rfl, hg, hna, hok, hnl, hru, hrs, hrl, hrb, q⟩ := h
    have hu := hu_of hr
    have hok' := hok
    unfold areNames at hok'
    simp only [Bool.and_eq_true, decide_eq_true_eq] at hok'
    obtain ⟨⟨⟨hn1, hn6⟩, hnd⟩, _⟩ := hok'
    refine ⟨_, (pss_cons (ps_if (pt_not (pt_val (pe_call G_are_names (hr.mono (by decide)) (by rfl) T.g_are_names T.F_are_names.kp T.b_are_names .nil pass0 (pa_cons (pv 1) pa_nil)))) (pss_one ps_never) pss_nil)
 (pss_cons (ps_fld (pv 0) (pe_callTy (T := "list") (r := Evl.rListS K) call_list_of (by rfl) T.list_ (by decide +kernel) (pa_cons (pv 1) pa_nil)) rfl)
 (pss_cons (ps_fld (pv 0) pe_dnewK rfl)
 (pss_cons (ps_fld (pv 0) (pe_lst pa_nil) rfl)
 (pss_cons (ps_for PassesOwn.never rfl (pi_list (pv 1)) (pg_name (i := 3) sc_Grammar___init__.nd rfl (Or.inl rfl))
 (pss_one (ps_dput hu (pe_fld (pv 0) rfl) (pv 3) (pe_lst pa_nil) rfl)))
 (pss_one (ps_for PassesOwn.never rfl (pi_enum (by rfl) T.enumerate (pa_cons (pv 2) pa_nil)) (pg_tup (by rfl) (pgs_cons (pg_name (i := 4) sc_Grammar___init__.nd rfl (Or.inl rfl)) (pgs_cons (pg_name (i := 5) sc_Grammar___init__.nd rfl (Or.inl rfl)) pgs_nil)))
 (pss_cons (ps_if (pt_not (pt_val (pe_meth (pv 0) T.cl_Grammar T.m_Grammar_lets_by G_Grammar_lets_by (hr.mono (by decide)) T.b_Grammar_lets_by .nil pass0 (pa_cons (pv 5) pa_nil)))) (pss_one ps_never) pss_nil)
 (pss_cons (ps_expr (pe_bm PySem.F.plainAttrs_list PySem.F.slot_list_append PySem.F.type_list_append mt_append (pe_dget hu (pe_fld (pv 0) rfl) (pe_ix (r := rIxT K) ix_tup (pv 5) pe_int (fun _ _ => rfl)) (fun _ _ => rfl)) (pa_cons (pe_tup (pa_cons (pe_ix (r := rIxT K) ix_tup (pv 5) pe_int (fun _ _ => rfl)) (pa_cons (pe_callTy (T := "list") (r := Evl.rListS K) call_list_of (by rfl) T.list_ (by decide +kernel) (pa_cons (pe_ix (r := rIxT K) ix_tup (pv 5) pe_int (fun _ _ => rfl)) pa_nil)) pa_nil))) pa_nil)))
 (pss_one (ps_expr (pe_bm PySem.F.plainAttrs_list PySem.F.slot_list_append PySem.F.type_list_append mt_append (pe_fld (pv 0) rfl) (pa_cons (pe_ix (r := rIxT K) ix_tup (pv 5) pe_int (fun _ _ => rfl)) pa_nil))))))))))))), ?_⟩
    refine ⟨_, rfl, na, names, rfl, SqL.of hna, by omega, hnl, fun H1 sm1 => ⟨_, rfl, iteNE hok ?_⟩⟩
    -- self.known = list(names)
    refine ⟨_, rfl, na, _, rfl, .inl (SqL.of (sm1 _ _ hna)), fun kn hkn => ?_⟩
    have ngk : g ≠ kn := ne_of_none (sm1 _ _ hg) hkn
    refine ⟨_, rfl, g, A.c_Grammar, dx, [], rfl, same_new hkn _ _ (sm1 _ _ hg), T.cl_Grammar, T.n_Grammar_known, by show 0 < 1000; decide, ?_⟩
    -- self.stored = {}
    intro st hst
    have ngs : g ≠ st := fun z => by rw [z, upd_same] at hst; cases hst
    refine ⟨_, rfl, g, A.c_Grammar, dx, _, rfl, same_new hst _ _ upd_same, T.cl_Grammar, T.n_Grammar_stored, by show 1 < 1000; decide, ?_⟩
    -- self.order = []
    refine ⟨Nat.zero_le _, fun od hod => ?_⟩
    have ngo : g ≠ od := fun z => by rw [z, upd_same] at hod; cases hod
    refine ⟨_, rfl, g, A.c_Grammar, dx, _, rfl, same_new hod _ _ upd_same, T.cl_Grammar, T.n_Grammar_order, ?_, ?_⟩
    · have h1 := length_putF "stored" (V.ref st) (putF "known" (V.ref kn) ([] : List (Str × V)))
      have h2 := length_putF "known" (V.ref kn) ([] : List (Str × V))
      rw [List.length_nil] at h2
      omega
    have nks : st ≠ kn := fun z => by
      rw [z, upd_ne ngk.symm, upd_same] at hst
      cases hst
    have nos : od ≠ st := fun z => by
      rw [z, upd_ne ngs.symm, upd_same] at hod
      cases hod
    have nok : od ≠ kn := fun z => by
      rw [z, upd_ne ngk.symm, upd_ne nks.symm, upd_ne ngk.symm, upd_same] at hod
      cases hod
    generalize hH4 : upd (upd (upd (upd (upd (upd H1 kn (.lst (names.map V.str))) g (.ins A.c_Grammar dx (putF "known" (.ref kn) []))) st (.dK [])) g (.ins A.c_Grammar dx (putF "stored" (.ref st) (putF "known" (.ref kn) [])))) od (.lst [])) g (.ins A.c_Grammar dx (putF "order" (.ref od) (putF "stored" (.ref st) (putF "known" (.ref kn) [])))) = H4
    have g4 : H4 g = some (.ins A.c_Grammar dx (gfs kn st od)) := by rw [← hH4]; exact upd_same
    have k4 : H4 kn = some (.lst (names.map V.str)) := by rw [← hH4, upd_ne ngk.symm, upd_ne nok.symm, upd_ne ngk.symm, upd_ne nks.symm, upd_ne ngk.symm, upd_same]
    have s4 : H4 st = some (.dK []) := by rw [← hH4, upd_ne ngs.symm, upd_ne nos.symm, upd_ne ngs.symm, upd_same]
    have o4 : H4 od = some (.lst []) := by rw [← hH4, upd_ne ngo.symm, upd_same]
    have fk : H kn = none := sm1.free hkn
    have fs : H st = none := by
      rw [upd_ne ngs.symm, upd_ne nks] at hst
      exact sm1.free hst
    have fk : H kn = none := sm1.free hkn
    have fs : H st = none := by
      cases e : H st with
      | none => rfl
      | some o =>
        have e1 := sm1 _ _ e
        rw [upd_ne ngs.symm, upd_ne nks, e1] at hst
        cases hst
    have fo : H od = none := by
      rw [upd_ne ngo.symm, upd_ne nos, upd_ne ngo.symm, upd_ne nok] at hod
      exact sm1.free hod
    have base4 : ∀ b o, H b = some o → b ≠ g → H4 b = some o := fun b o h n => by
      rw [← hH4, upd_ne n, upd_ne (ne_of_none h fo), upd_ne n, upd_ne (ne_of_none h fs), upd_ne n, upd_ne (ne_of_none h fk)]
      exact sm1 _ _ h
    clear hH4 hst hod hkn
    have nna : na ≠ g := ne_of hna hg (by intro z; cases z)
    -- for name in names: self.stored[name] = []
    refine ⟨_, rfl, na, rfl, ⟨_, SqL.of (base4 _ _ hna nna)⟩, for_list (K := K) (a := na) (xs := names.map V.str) (fun i σ' H' => ∃ (x3 : Option V) (ls : List Addr), σ' = [some (.ref g), some (.ref na), some (.ref ru), x3, none, none] ∧
        (∀ b o, H b = some o → b ≠ g → H' b = some o) ∧ H' g = some (.ins A.c_Grammar dx (gfs kn st od)) ∧ H' kn = some (.lst (names.map V.str)) ∧ H' st = some (.dK (zipK (names.take i) ls)) ∧ H' od = some (.lst []) ∧ ls.Nodup ∧ (∀ l ∈ ls, H l = none) ∧ kn ∉ ls ∧ od ∉ ls ∧ ls.length = i ∧ ∀ l ∈ ls, H' l = some (.lst [])) ?_ ?_ ?_ ?_⟩
    · exact ⟨none, [], rfl, base4, g4, k4, s4, o4, by simp, by simp, by simp, by simp, rfl, by simp⟩
    · rintro i σ' H' _ ⟨_, _, rfl, b5, _⟩
      exact SqL.of (b5 _ _ hna nna)
    · rintro i x σ' H5 hi ⟨x3, ls, rfl, b5, g5, k5, s5, o5, nd5, fr5, nk5, no5, hl5, em5⟩
      obtain ⟨n, hn, rfl⟩ := map_at hi
      have hil := (List.getElem?_eq_some_iff.mp hn).1
      refine ⟨Nat.zero_le _, fun l hl => ?_⟩
      have sml := same_new hl (o := .lst [])
      have hst6 := sml _ _ s5
      have hnl6 : l ∉ ls := fun z => by rw [em5 l z] at hl; cases hl
      refine ⟨_, rfl, g, _, _, _, _, rfl, sml _ _ g5, T.cl_Grammar, T.n_Grammar_stored, gfs_stored _ _ _, _, rfl, st, _, rfl, DPut.k (k := Sum.inr n) hst6 ?_, ?_⟩
      · have : (zipK (names.take i) ls).length ≤ 6 := by
          unfold zipK
          rw [List.length_zipWith, List.length_take]
          omega
        exact sl1 (by omega)
      have hnn : n ∉ names.take i := fun z => by
        obtain ⟨j, hj⟩ := List.mem_iff_getElem?.mp z
        rw [List.getElem?_take] at hj
        by_cases hji : j < i
        · rw [if_pos hji] at hj
          have := nd_ix hnd hj hn
          omega
        · rw [if_neg hji] at hj
          cases hj
      have kp : ∀ (x : Addr) (o : HO), H5 x = some o → o ≠ .dK (zipK (names.take i) ls) → (upd (upd H5 l (.lst [])) st (.dK (putK (zipK (names.take i) ls) (Sum.inr n) (.ref l)))) x = some o := fun x o h n => by
        rw [upd_ne (ne_of h s5 n)]
        exact sml _ _ h
      have nls : l ≠ st := ne_of upd_same hst6 (by intro z; cases z)
      refine ⟨_, ls ++ [l], rfl, fun b o h n2 => ?_, kp _ _ g5 (by intro z; cases z), kp _ _ k5 (by intro z; cases z), ?_, kp _ _ o5 (by intro z; cases z), ?_, ?_, ?_, ?_, by simp [hl5], ?_⟩
      · rw [upd_ne (ne_of_none h fs)]
        exact sml _ _ (b5 b o h n2)
      · rw [upd_same, putK_fresh (by rw [List.length_take]; omega) hnn, take_snoc hn]
      · rw [List.nodup_append]
        refine ⟨nd5, by simp, fun x hx y hy z => hnl6 ?_⟩
        rw [List.mem_singleton.mp hy] at z
        exact z ▸ hx
      · intro y hy
        rcases List.mem_append.mp hy with hy | hy
        · exact fr5 y hy
        · rw [List.mem_singleton.mp hy]
          cases e : H l with
          | none => rfl
          | some o =>
            by_cases hlg : l = g
            · rw [hlg, g5] at hl; cases hl
            · rw [b5 l o e hlg] at hl; cases hl
      · rw [List.mem_append, not_or]
        exact ⟨nk5, fun z => by rw [List.mem_singleton.mp z] at k5; rw [k5] at hl; cases hl⟩
      · rw [List.mem_append, not_or]
        exact ⟨no5, fun z => by rw [List.mem_singleton.mp z] at o5; rw [o5] at hl; cases hl⟩
      · intro y hy
        rcases List.mem_append.mp hy with hy | hy
        · exact kp _ _ (em5 y hy) (by intro z; cases z)
        · rw [List.mem_singleton.mp hy, upd_ne nls, upd_same]
    rintro σ' H5 ⟨x3, ls, rfl, b5, g5, k5, s5, o5, nd5, fr5, nk5, no5, hl5, em5⟩
    rw [List.length_map, List.take_length] at s5
    rw [List.length_map] at hl5
    have bld : Bld A.c_Grammar g dx kn st od H H5 names ls [] := by
      refine ⟨b5, g5, k5, s5, o5, nd5, fr5, fo, fk, fs, ?_, no5, ?_⟩
      · rw [List.mem_cons, not_or]
        exact ⟨nok.symm, nk5⟩
      · refine paired_all (by omega) fun i n l h1 h2 => ⟨[], em5 l (List.mem_of_getElem? h2), ?_⟩
        exact .nil
    clear b5 g5 k5 s5 o5 nd5 fr5 nk5 no5 em5
    -- for at, rule in enumerate(rules)
    obtain ⟨ts, hts, htr⟩ := hru
    have ntu : ru ≠ g := ne_of hts hg (by intro z; cases z)
    have htl : ts.length = rs.length := paired_len htr
    refine ⟨_, rfl, ru, _, rfl, SqL.of (bld.base _ _ hts ntu), for_it (walk_enum (a := ru) (xs := ts.map V.ref)) (fun i σ' H' => ∃ x3 x4 x5 : Option V, σ' = [some (.ref g), some (.ref na), some (.ref ru), x3, x4, x5] ∧ Bld A.c_Grammar g dx kn st od H H' names ls (rs.take i)) ?_ ?_ ?_ ?_⟩
    · exact ⟨_, _, _, rfl, bld⟩
    · rintro i σ' H' _ ⟨_, _, _, rfl, b⟩
      exact SqL.of (b.base _ _ hts ntu)
    · rintro i x σ' H6 H7 hi ⟨x3, x4, x5, rfl, b⟩ ⟨T0, y1, y2, rfl, hT, rfl, e1, e2⟩
      have e1 := Option.some.inj e1
      subst e1
      obtain ⟨t, hti, rfl⟩ := map_at e2
      obtain ⟨r, hr1, w0, hw1, hw2⟩ := paired_get htr hti
      have b7 : Bld A.c_Grammar g dx kn st od H (upd H6 T0 (.tup [.int i, .ref t])) names ls (rs.take i) := b.same (same_new hT)
      refine ⟨T0, _, rfl, SqT.of upd_same, rfl, _, _, rfl, _, _, rfl, rfl, ?_⟩
      have ht7 : (upd H6 T0 (.tup [.int i, .ref t])) t = some (.tup [.str r.1, .str r.2.1, .ref w0]) := b7.base _ _ hw1 (ne_of hw1 hg (by intro z; cases z))
      have hw7 : (upd H6 T0 (.tup [.int i, .ref t])) w0 = some (.lst (r.2.2.map V.str)) := b7.base _ _ hw2 (ne_of hw2 hg (by intro z; cases z))
      generalize (upd H6 T0 (.tup [.int i, .ref t])) = H8 at b7 ht7 hw7 ⊢
      have hrm := List.mem_of_getElem? hr1
      have hlets := hrs i r hr1
      have hin : r.1 ∈ names := by
        unfold letsBy at hlets
        simp only [Bool.and_eq_true, decide_eq_true_eq] at hlets
        exact hlets.1.1.1.1.1
      have hrt : (rulesOf (rs.take i) r.1).length ≤ 1000 := by
        have h1 := rulesOf_len (rs.take i) r.1
        rw [List.length_take] at h1
        omega
      refine ⟨_, rfl, g, _, _, rfl, b7.ins, gfs_no _ _ _ (by decide +kernel) (by decide +kernel) (by decide +kernel), _, rfl, g, t, dx, kn, st, od, ls, names, rs.take i, r, rfl, b7.ins, b7.stored, ⟨w0, ht7, hw7⟩, (hrb r hrm).1, (hrb r hrm).2, hrt, fun H9 sm9 => ⟨_, rfl, iteNE hlets ?_⟩⟩
      have b9 := b7.same sm9
      rcases b9.stored.look r.1 with ⟨_, f⟩ | ⟨j, l, hj, hl, el, _, us, hus, hup⟩
      · exact absurd hin f
      have ht9 := sm9 _ _ ht7
      have hw9 := sm9 _ _ hw7
      -- self.stored[rule[0]].append((rule[1], list(rule[2])))
      refine ⟨_, rfl, g, _, _, _, _, rfl, b9.ins, T.cl_Grammar, T.n_Grammar_stored, gfs_stored _ _ _, _, rfl, t, _, _, _, rfl, rfl, SqT.of ht9, atI_nat (j := 0) rfl, st, _, rfl, .inl ⟨_, Sum.inr r.1, .inl b9.sd, rfl, el.symm⟩, .inl ⟨rfl, _, SqL.of hus⟩, ?_⟩
      refine ⟨_, rfl, t, _, _, _, rfl, rfl, SqT.of ht9, atI_nat (j := 1) rfl, _, rfl, t, _, _, _, rfl, rfl, SqT.of ht9, atI_nat (j := 2) rfl, w0, _, rfl, .inl (SqL.of hw9), fun w hw => ⟨sl2 (by show 2 ≤ 1000000; decide), fun u hu3 => ?_⟩⟩
      have sm2 := (same_new hw (o := .lst (r.2.2.map V.str))).trans (same_new hu3 (o := .tup [.str r.2.1, .ref w]))
      have b10 := b9.same sm2
      have hwU : (upd (upd H9 w (.lst (r.2.2.map V.str))) u (.tup [.str r.2.1, .ref w])) w = some (.lst (r.2.2.map V.str)) := by rw [upd_ne (ne_of_none upd_same hu3), upd_same]
      have huU : (upd (upd H9 w (.lst (r.2.2.map V.str))) u (.tup [.str r.2.1, .ref w])) u = some (.tup [.str r.2.1, .ref w]) := upd_same
      have hus10 := sm2 _ _ hus
      have hw0' : H9 w = none := hw
      have hu0 : H9 u = none := (same_new hw).free hu3
      have ht10 := sm2 _ _ ht9
      have hwb : w ∉ od :: ls := fun z => by
        rcases List.mem_cons.mp z with z | z
        · rw [z, b9.hod] at hw; cases hw
        · obtain ⟨j', hj'⟩ := List.mem_iff_getElem?.mp z
          have hn' : ∃ n', names[j']? = some n' := ⟨_, List.getElem?_eq_getElem (by rw [paired_len b9.prs]; exact (List.getElem?_eq_some_iff.mp hj').1)⟩
          obtain ⟨n', hn'⟩ := hn'
          obtain ⟨_, g1, _⟩ := paired_ix b9.prs hn' hj'
          rw [g1] at hw; cases hw
      generalize (upd (upd H9 w (.lst (r.2.2.map V.str))) u (.tup [.str r.2.1, .ref w])) = H10 at b10 hwU huU hus10 ht10 sm2 ⊢
      have hul : us.length = (rulesOf (rs.take i) r.1).length := paired_len hup
      refine ⟨l, _, _, rfl, rfl, hus10, by rw [List.length_map, hul]; exact sl1 (by omega), ?_⟩
      -- self.order.append(rule[0])
      have nlo : l ≠ od := fun z => b10.odl (z ▸ List.mem_of_getElem? hl)
      have ho10 : (upd H10 l (.lst (us.map V.ref ++ [.ref u]))) od = some (.lst (((rs.take i).map (·.1)).map V.str)) := by rw [upd_ne nlo.symm]; exact b10.hod
      have hg10 : (upd H10 l (.lst (us.map V.ref ++ [.ref u]))) g = some (.ins A.c_Grammar dx (gfs kn st od)) := by rw [upd_ne (ne_of b10.ins hus10 (by intro z; cases z))]; exact b10.ins
      have ht11 : (upd H10 l (.lst (us.map V.ref ++ [.ref u]))) t = some (.tup [.str r.1, .str r.2.1, .ref w0]) := by rw [upd_ne (ne_of ht10 hus10 (by intro z; cases z))]; exact ht10
      refine ⟨_, rfl, g, _, _, _, _, rfl, hg10, T.cl_Grammar, T.n_Grammar_order, gfs_order _ _ _, .inl ⟨rfl, _, SqL.of ho10⟩, _, rfl, t, _, _, _, rfl, rfl, SqT.of ht11, atI_nat (j := 0) rfl, od, _, _, rfl, rfl, ho10, by rw [List.length_map, List.length_map, List.length_take]; exact sl1 (by omega), ?_⟩
      refine ⟨_, _, _, rfl, ?_⟩
      rw [take_snoc hr1]
      exact b10.put hnd hj hl hus10 (b9.fresh hu0) (b9.fresh hw0') huU hwU hwb rfl
    · rintro σ' H6 ⟨x3, x4, x5, rfl, b⟩
      rw [List.length_map, htl, List.take_length] at b
      exact q H6 b.base ⟨dx, kn, st, od, ls, b⟩
end
section
variable {P : Program} {w : World} {K : PySem.W.Frag} {mg : Str → Option Value} {base : Heap} {A : Ad}
/-! ### steps -/
def sp_look (C : Addr) : Sp := fun vs H Q _ => ∃ (g a : Addr) (names : List Str) (rs : List Rule) (row : List Str), vs = [.ref g, .ref a] ∧ GramAt C H g names rs ∧ H a = some (.lst (row.map V.str)) ∧ (∀ x ∈ row, x ∈ names) ∧ Q .non H
theorem ok_look_at_names (T : Txt K mg A) : FnOk P w K mg base CX0 2 A.a_look_at_names A.d_look_at_names ["grammar", "row"] (sp_look A.c_Grammar) := by
  have G_Grammar_has : FnOk P w K mg base CX0 1 A.a_Grammar_has A.d_Grammar_has ["self", "name"] (sp_G_has A.c_Grammar) := ok_Grammar_has T
  refine T.F_look_at_names.ok sc_look_at_names (fun vs H Q E h => ?_) (fun cdv A0 outer s0 H vs Q E hr h => ?_)
  · obtain ⟨_, _, _, _, _, rfl, _⟩ := h
    rfl
  · obtain ⟨g, a, names, rs, row, rfl, G, ha, hin, q⟩ := h
    obtain ⟨dx, kn, st, od, hg⟩ := G.ins
    refine ⟨_, (pss_one (ps_for PassesOwn.never rfl (pi_list (pv 1)) (pg_name (i := 2) sc_look_at_names.nd rfl (Or.inl rfl))
 (pss_one (ps_if (pt_not (pt_val (pe_meth (pv 0) T.cl_Grammar T.m_Grammar_has G_Grammar_has (hr.mono (by decide)) T.b_Grammar_has .nil pass0 (pa_cons (pv 2) pa_nil)))) (pss_one ps_never) pss_nil)))), ?_⟩
    refine ⟨_, rfl, a, rfl, ⟨_, SqL.of ha⟩, for_list (K := K) (a := a) (xs := row.map V.str) (fun i σ' H' => ∃ x2 : Option V, σ' = [some (.ref g), some (.ref a), x2] ∧ H' = H) ?_ ?_ ?_ ?_⟩
    · exact ⟨_, rfl, rfl⟩
    · rintro i σ' H' _ ⟨_, rfl, rfl⟩
      exact SqL.of ha
    · rintro i x σ' H' hi ⟨x2, rfl, rfl⟩
      obtain ⟨n, hn, rfl⟩ := map_at hi
      have hm := hin n (List.mem_of_getElem? hn)
      refine ⟨_, rfl, g, _, _, rfl, hg, gfs_no _ _ _ (by decide +kernel) (by decide +kernel) (by decide +kernel), _, rfl, g, names, rs, n, rfl, G, _, rfl, iteNE (decide_eq_true hm) ?_⟩
      exact ⟨_, rfl, rfl⟩
    · rintro σ' H' ⟨_, rfl, rfl⟩
      exact q
end
section
variable {P : Program} {w : World} {K : PySem.W.Frag} {mg : Str → Option Value} {base : Heap} {A : Ad}
/-! ### norms -/
def sp_added : Sp := fun vs H Q _ => ∃ (d a : Addr) (kvs : List (Key × V)) (wt : Wt) (row : List Str), vs = [.ref d, .ref a] ∧ H d = some (.dK kvs) ∧ (∀ x ∈ row, valV kvs (Sum.inr x : Key) = some (optV (wt x))) ∧ H a = some (.lst (row.map V.str)) ∧ row.length ≤ 1000000 ∧ ∀ H', Same H H' → Q (optV (addW wt row)) H'
theorem ok_added_up (T : Txt K mg A) : FnOk P w K mg base CX0 1 A.a_added_up A.d_added_up ["norms", "row"] sp_added := by
  refine T.F_added_up.ok sc_added_up (fun vs H Q E h => ?_) (fun cdv A0 outer s0 H vs Q E hr h => ?_)
  · obtain ⟨_, _, _, _, _, rfl, _⟩ := h
    rfl
  · obtain ⟨d, a, kvs, wt, row, rfl, hd, hval, ha, hl, q⟩ := h
    have hu := hu_of hr
    have hu64 := hu64_of hr
    refine ⟨_, (pss_cons (ps_setLc (i := 2) (own := [("name", 3)]) (g := gName 3) (by rfl) sc_added_up.nd rfl rfl (sw_true rfl rfl rfl (by decide +kernel)) (pi_list (pv 1)) (blkOk_by (own := [("name", 3)]) (N := ["norms", "row", "some", "name"]) (sc := defScope s_added_up) (by decide +kernel)) (fun _ _ _ _ _ => (pg_name (i := 3) sc_added_up.nd rfl (Or.inl rfl))) (fun _ _ _ _ _ => pts_nil) (fun _ _ _ _ _ => (pe_dget hu (pv 0) (pv 3) (fun _ _ => rfl))))
 (pss_cons (ps_if (pt_cmpR (r := rInP K) (op_inP hu64) pe_non (pv 2) (by rfl)) (pss_one (ps_ret pe_non)) pss_nil)
 (pss_one (ps_ret (pe_callB (id := "sum") (r := rSum K) (cr_sum rfl) (by rfl) T.sum (by decide +kernel) (pa_cons (pv 2) pa_nil)))))), ?_⟩
    refine ⟨_, rfl, a, rfl, ⟨_, SqL.of ha⟩, fun D hD => lc_scal (K := K) (ys := (row.map wt).map optV) (SqL.of ha) hD (by simp) (by rw [List.length_map]; exact hl) (fun _ => rfl) (fun i x y H' Q' g1 g2 sm k => ?_) (fun H2 sm2 hl2 => ?_)⟩
    · obtain ⟨x1, hx1, rfl⟩ := map_at g1
      have hx2 : (row.map wt)[i]? = some (wt x1) := by rw [List.getElem?_map, hx1]; rfl
      have ey := map_get hx2 g2
      subst ey
      exact ⟨_, rfl, _, rfl, d, _, rfl, .inl ⟨kvs, Sum.inr x1, .inl (sm _ _ hd), rfl, (hval x1 (List.mem_of_getElem? hx1)).symm⟩, k _ fun _ _ h => h⟩
    refine ⟨_, rfl, oD none, (row.map wt).map oD, .non, .inl (.lst (SqL.of hl2) (dpAll_oD _)), Nat.le_trans (dep_oD none) (by decide), _, rfl, ?_⟩
    rw [any_enc enc_oD]
    refine iteB (fun hc => ?_) (fun hc => ?_)
    · have e : addW wt row = none := addW_none.mpr (by simpa using hc)
      rw [e] at q
      exact q _ sm2
    · have e : addW wt row ≠ none := fun z => by
        have h1 := addW_none.mp z
        rw [decide_eq_false_iff_not] at hc
        exact hc (by simpa using h1)
      cases e2 : addW wt row with
      | none => exact absurd e2 e
      | some s =>
        obtain ⟨ns, e3, e4⟩ := addW_some e2
        rw [e2] at q
        rw [e3] at hl2
        refine ⟨_, rfl, D, ns, rfl, SqL.of hl2, ?_⟩
        rw [e4]
        exact q _ sm2
theorem RuleAt.dict {H : Hp} {d t : Addr} {kvs kvs2 : List (Key × V)} {p : Str × List Str} (hd : H d = some (.dK kvs)) (h : RuleAt H t p) : RuleAt (upd H d (.dK kvs2)) t p := by
  obtain ⟨w, h1, h2⟩ := h
  exact ⟨w, by rw [upd_ne (ne_of h1 hd (by intro z; cases z))]; exact h1, by rw [upd_ne (ne_of h2 hd (by intro z; cases z))]; exact h2⟩
def sp_norms (C : Addr) : Sp := fun vs H Q _ => ∃ (g : Addr) (names : List Str) (rs : List Rule), vs = [.ref g] ∧ GramAt C H g names rs ∧ names.Nodup ∧ names.length ≤ 1000 ∧ (∀ r ∈ rs, r.1 ∈ names ∧ ∀ x ∈ r.2.2, x ∈ names) ∧ ShortR rs ∧ ∀ p H', H p = none → Same H H' → H' p = some (.dK (kvsW names (normW rs))) → Q (.ref p) H'
theorem ok_norms (T : Txt K mg A) : FnOk P w K mg base CX0 2 A.a_norms A.d_norms ["grammar"] (sp_norms A.c_Grammar) := by
  have G_Grammar_names : FnOk P w K mg base CX0 1 A.a_Grammar_names A.d_Grammar_names ["self"] (sp_G_names A.c_Grammar) := ok_Grammar_names T
  have G_Grammar_rules_of : FnOk P w K mg base CX0 1 A.a_Grammar_rules_of A.d_Grammar_rules_of ["self", "name"] (sp_G_rules_of A.c_Grammar) := ok_Grammar_rules_of T
  have G_added_up : FnOk P w K mg base CX0 1 A.a_added_up A.d_added_up ["norms", "row"] sp_added := ok_added_up T
  refine T.F_norms.ok sc_norms (fun vs H Q E h => ?_) (fun cdv A0 outer s0 H vs Q E hr h => ?_)
  · obtain ⟨_, _, _, rfl, _⟩ := h
    rfl
  · obtain ⟨g, names, rs, rfl, G, hnd, hnl, hin, hsh, q⟩ := h
    have hu := hu_of hr
    obtain ⟨dx, kn, st, od, hg⟩ := G.ins
    have nm : ∀ {m : Str}, ¬ m = "known" → ¬ m = "stored" → ¬ m = "order" → (gfs kn st od).lookup m = none := gfs_no kn st od
    have hEf : ∀ e ∈ edP names rs, e.1 ∈ names := edP_fst
    refine ⟨_, (pss_cons (ps_set (i := 1) sc_norms.nd rfl (Or.inl rfl) (pe_callTy (T := "dict") (r := rDictP K) (call_dictP rfl) (by rfl) T.dict_ (by decide +kernel) (pa_cons (pe_lc (own := [("name", 3)]) (g := gName 3) (by rfl) sc_norms.nd (pi_list (pe_meth0 (pv 0) T.cl_Grammar T.m_Grammar_names G_Grammar_names (hr.mono (by decide)) T.b_Grammar_names .nil pass0)) (blkOk_by (own := [("name", 3)]) (N := ["grammar", "found", "again", "name", "letter", "row", "norm"]) (sc := defScope s_norms) (by decide +kernel)) (fun _ _ _ _ _ => (pg_name (i := 3) sc_norms.nd rfl (Or.inl rfl))) (fun _ _ _ _ _ => pts_nil) (fun _ _ _ _ _ => (pe_tup (pa_cons (pv 3) (pa_cons pe_non pa_nil))))) pa_nil)))
 (pss_cons (ps_set (i := 2) sc_norms.nd rfl (Or.inl rfl) pe_bl)
 (pss_cons (ps_while PassesOwn.never (pt_val (pv 2)) (pss_cons (ps_set (i := 2) sc_norms.nd rfl (Or.inl rfl) pe_bl)
 (pss_one (ps_for PassesOwn.never rfl (pi_list (pe_meth0 (pv 0) T.cl_Grammar T.m_Grammar_names G_Grammar_names (hr.mono (by decide)) T.b_Grammar_names .nil pass0)) (pg_name (i := 3) sc_norms.nd rfl (Or.inl rfl))
 (pss_one (ps_for PassesOwn.never rfl (pi_list (pe_meth (pv 0) T.cl_Grammar T.m_Grammar_rules_of G_Grammar_rules_of (hr.mono (by decide)) T.b_Grammar_rules_of .nil pass0 (pa_cons (pv 3) pa_nil))) (pg_tup (by rfl) (pgs_cons (pg_name (i := 4) sc_norms.nd rfl (Or.inl rfl)) (pgs_cons (pg_name (i := 5) sc_norms.nd rfl (Or.inl rfl)) pgs_nil)))
 (pss_cons (ps_set (i := 6) sc_norms.nd rfl (Or.inl rfl) (pe_call G_added_up (hr.mono (by decide)) (by rfl) T.g_added_up T.F_added_up.kp T.b_added_up .nil pass0 (pa_cons (pv 1) (pa_cons (pv 5) pa_nil))))
 (pss_one (ps_if (PW.pt (pw_and (pt_cmpR op_notN (pv 6) pe_non (nomark _)) (pw_and1 (PW.pt (pw_or (pt_cmpR op_isN (pe_dget hu (pv 1) (pv 3) (fun _ _ => rfl)) pe_non (nomark _)) (pw_or1 (pt_cmpR op_lt (pe_op op_add (pv 6) pe_int) (pe_dget hu (pv 1) (pv 3) (fun _ _ => rfl)) (nomark _)))))))) (pss_cons (ps_dput hu (pv 1) (pv 3) (pe_op op_add (pv 6) pe_int) rfl)
 (pss_one (ps_set (i := 2) sc_norms.nd rfl (Or.inl rfl) pe_bl))) pss_nil)))))))))
 (pss_one (ps_ret (pv 1)))))), ?_⟩
    -- found
    refine ⟨_, rfl, g, _, _, rfl, hg, nm (by decide +kernel) (by decide +kernel) (by decide +kernel), g, names, rs, rfl, G, fun p1 H1 hp1 sm1 hl1 => ?_⟩
    refine ⟨p1, rfl, ⟨_, SqL.of hl1⟩, fun D hD => lc_list (K := K) (a := p1) (xs := names.map V.str) (fun i H' => Same H1 H' ∧ ∃ us : List Addr, H' D = some (.lst (us.map V.ref)) ∧ Paired (fun u n => u ≠ D ∧ H' u = some (.tup [.str n, .non])) us (names.take i)) ?_ ?_ ?_ ?_⟩
    · exact ⟨same_new hD, [], upd_same, .nil⟩
    · rintro i H' _ ⟨sm, _⟩
      exact SqL.of (sm _ _ hl1)
    · rintro i x H' hi ⟨sm, us, hu1, hu2⟩
      obtain ⟨n, hn, rfl⟩ := map_at hi
      refine ⟨rfl, tyes (iteT ?_)⟩
      refine ⟨_, rfl, sl2 (by show 2 ≤ 1000000; decide), fun u hu3 => ?_⟩
      have smu := same_new hu3 (o := .tup [.str n, .non])
      have nuD : u ≠ D := fun z => by rw [z, hu1] at hu3; cases hu3
      refine ⟨_, smu _ _ hu1, by rw [List.length_map, paired_len hu2, List.length_take]; exact sl1 (by omega), same_mut (sm.trans smu) hD, us ++ [u], by rw [upd_same, List.map_append]; rfl, ?_⟩
      rw [take_snoc hn]
      exact paired_app (F := fun u' n' => u' ≠ D ∧ (upd (upd H' u (.tup [.str n, .non])) D _) u' = some (.tup [.str n', .non])) ⟨nuD, by rw [upd_ne nuD, upd_same]⟩ (Paired.mapP hu2 fun _ _ ⟨a1, a2⟩ => ⟨a1, by rw [upd_ne a1]; exact smu _ _ a2⟩)
    rintro H2 ⟨sm2, us, hu1, hu2⟩
    rw [List.length_map, List.take_length] at hu2
    have hkv0 : Paired (fun p (kv : Key × V) => SqT K H2 p [kV kv.1, kv.2]) us (kvsW names (rounds (edP names rs) 0)) := by
      unfold kvsW
      refine paired_all (by rw [paired_len hu2, List.length_map]) fun i u kv h1 h2 => ?_
      obtain ⟨n, hn, rfl⟩ := map_at h2
      exact SqT.of (paired_ix hu2 h1 hn).2
    refine ⟨D, us, kvsW names (rounds (edP names rs) 0), rfl, SqL.of hu1, hkv0, fun d hd => ?_⟩
    have hmg : mergeK [] (kvsW names (rounds (edP names rs) 0)) = kvsW names (rounds (edP names rs) 0) := by
      rw [mergeK_nd (fun _ _ => rfl)]
      · rfl
      · have : (kvsW names (rounds (edP names rs) 0)).map (·.1) = names.map (Sum.inr : Str → Key) := by
          unfold kvsW
          rw [List.map_map]
          rfl
        rw [this]
        exact List.pairwise_map.mpr (hnd.imp fun h e => h (Sum.inr.inj e))
    rw [hmg]
    have smd := same_new hd (o := .dK (kvsW names (rounds (edP names rs) 0)))
    have hd0 : H d = none := sm1.free (sm2.free hd)
    have sm03 : Same H (upd H2 d (.dK (kvsW names (rounds (edP names rs) 0)))) := sm1.trans (sm2.trans smd)
    have hd3 : (upd H2 d (.dK (kvsW names (rounds (edP names rs) 0)))) d = some (.dK (kvsW names (rounds (edP names rs) 0))) := upd_same
    generalize (upd H2 d (.dK (kvsW names (rounds (edP names rs) 0)))) = H3 at smd sm03 hd3 ⊢
    clear smd hd hkv0 hu2 hu1 sm2 hD hl1 sm1 hp1
    -- while again
    refine ⟨fun m σ' H' => ∃ (b : Bool) (t : Nat) (x3 x4 x5 x6 : Option V), σ' = [some (.ref g), some (.ref d), some (.bl b), x3, x4, x5, x6] ∧ Same H H' ∧ H' d = some (.dK (kvsW names (rounds (edP names rs) t))) ∧ ((b = true ∧ t ≤ names.length ∧ m = names.length + 1 - t) ∨ (b = false ∧ rounds (edP names rs) t = muW (edP names rs) ∧ m = 0)), ⟨names.length + 1, true, 0, _, _, _, _, rfl, sm03, hd3, .inl ⟨rfl, Nat.zero_le _, rfl⟩⟩, ?_⟩
    clear hd3 sm03
    rintro m σ' H4 ⟨b, t, x3, x4, x5, x6, rfl, sm4, hd4, hb⟩
    refine ⟨_, rfl, _, rfl, ?_⟩
    rcases hb with ⟨rfl, ht, hm⟩ | ⟨rfl, hmu, _⟩
    · refine iteT ?_
      refine ⟨fun σ' H' => ∃ (b : Bool) (x3 x4 x5 x6 : Option V), σ' = [some (.ref g), some (.ref d), some (.bl b), x3, x4, x5, x6] ∧ Same H H' ∧ H' d = some (.dK (kvsW names (rounds (edP names rs) (t + 1)))) ∧ (b = false → rounds (edP names rs) (t + 1) = rounds (edP names rs) t) ∧ (rounds (edP names rs) t = muW (edP names rs) → b = false), ?_, ?_⟩
      · rintro σ' H' ⟨b, x3, x4, x5, x6, rfl, sm, hd', h1, h2⟩
        cases b with
        | true =>
          have htl : t < names.length := Nat.lt_of_not_le fun l => by
            have := h2 (rounds_mu hEf l)
            cases this
          exact ⟨names.length + 1 - (t + 1), by omega, true, t + 1, _, _, _, _, rfl, sm, hd', .inl ⟨rfl, htl, rfl⟩⟩
        | false =>
          have hst := rounds_stop hEf (h1 rfl)
          exact ⟨0, by omega, false, t + 1, _, _, _, _, rfl, sm, hd', .inr ⟨rfl, (h1 rfl).trans hst, rfl⟩⟩
      · -- a round
        generalize hw0 : rounds (edP names rs) t = w0 at hd4
        have hr1 : rounds (edP names rs) (t + 1) = (edP names rs).foldl relax w0 := by rw [← hw0]; rfl
        rw [hr1]
        refine ⟨_, rfl, g, _, _, rfl, sm4 _ _ hg, nm (by decide +kernel) (by decide +kernel) (by decide +kernel), g, names, rs, rfl, G.same sm4, fun p1 H5 hp1 sm5 hl5 => ?_⟩
        refine ⟨p1, rfl, ⟨_, SqL.of hl5⟩, for_list (K := K) (a := p1) (xs := names.map V.str) (fun i σ' H' => ∃ (b : Bool) (x3 x4 x5 x6 : Option V), σ' = [some (.ref g), some (.ref d), some (.bl b), x3, x4, x5, x6] ∧ Same H H' ∧ H' p1 = some (.lst (names.map V.str)) ∧ H' d = some (.dK (kvsW names (((names.take i).flatMap (edN rs)).foldl relax w0))) ∧ (b = false → ((names.take i).flatMap (edN rs)).foldl relax w0 = w0) ∧ (w0 = muW (edP names rs) → b = false)) ?_ ?_ ?_ ?_⟩
        · exact ⟨false, _, _, _, _, rfl, sm4.trans sm5, hl5, sm5 _ _ hd4, fun _ => rfl, fun _ => rfl⟩
        · rintro i σ' H' _ ⟨_, _, _, _, _, rfl, _, h, _⟩
          exact SqL.of h
        · rintro i x σ' H6 hi ⟨b, x3, x4, x5, x6, rfl, sm6, hl6, hd6, hb1, hb2⟩
          obtain ⟨n, hn, rfl⟩ := map_at hi
          have hnm := List.mem_of_getElem? hn
          have hsn := hsh.of n
          generalize hE1 : (names.take i).flatMap (edN rs) = E1 at hd6 hb1
          have hE2 : (names.take (i + 1)).flatMap (edN rs) = E1 ++ edN rs n := by
            rw [take_snoc hn, List.flatMap_append, hE1]
            simp
          rw [hE2]
          have hEin : ∀ p ∈ rulesOf rs n, (n, p.2) ∈ edP names rs := fun p hp => List.mem_flatMap.mpr ⟨n, hnm, List.mem_map.mpr ⟨p, hp, rfl⟩⟩
          refine ⟨_, rfl, g, _, _, rfl, sm6 _ _ hg, nm (by decide +kernel) (by decide +kernel) (by decide +kernel), _, rfl, g, names, rs, n, rfl, G.same sm6, hnm, by omega, fun p2 H7 nr => ?_⟩
          obtain ⟨hp2, sm7, us, hus, hpr⟩ := nr
          have hP7 : Paired (RuleAt H7) us (rulesOf rs n) := Paired.mapP hpr fun _ _ ⟨_, w, _, h3, h4⟩ => ⟨w, h3, h4⟩
          refine ⟨p2, rfl, ⟨_, SqL.of hus⟩, for_list (K := K) (a := p2) (xs := us.map V.ref) (fun j σ' H' => ∃ (b : Bool) (x4 x5 x6 : Option V), σ' = [some (.ref g), some (.ref d), some (.bl b), some (.str n), x4, x5, x6] ∧ Same H H' ∧ H' p1 = some (.lst (names.map V.str)) ∧ H' p2 = some (.lst (us.map V.ref)) ∧ Paired (RuleAt H') us (rulesOf rs n) ∧ H' d = some (.dK (kvsW names ((E1 ++ ((rulesOf rs n).take j).map fun p => (n, p.2)).foldl relax w0))) ∧ (b = false → (E1 ++ ((rulesOf rs n).take j).map fun p => (n, p.2)).foldl relax w0 = w0) ∧ (w0 = muW (edP names rs) → b = false)) ?_ ?_ ?_ ?_⟩
          · refine ⟨b, _, _, _, rfl, sm6.trans sm7, sm7 _ _ hl6, hus, hP7, ?_, ?_, hb2⟩
            · rw [List.take_zero, List.map_nil, List.append_nil]; exact sm7 _ _ hd6
            · rw [List.take_zero, List.map_nil, List.append_nil]; exact hb1
          · rintro i σ' H' _ ⟨_, _, _, _, rfl, _, _, h, _⟩
            exact SqL.of h
          · clear hd6 hb1 hb2 hl6 sm6 hP7 hpr hus sm7 hp2
            rintro j x σ' H8 hj ⟨b, x4, x5, x6, rfl, sm8, hl8, hus8, hP8, hd8, hb1, hb2⟩
            obtain ⟨u, hu1, rfl⟩ := map_at hj
            obtain ⟨r, hr2, w1, hw1, hw2⟩ := paired_get hP8 hu1
            have hrm := List.mem_of_getElem? hr2
            have hin2 := hin _ (mem_rulesOf.mp hrm)
            rw [take_snoc hr2, List.map_append, ← List.append_assoc, List.foldl_append]
            have hmuF : w0 = muW (edP names rs) → (E1 ++ ((rulesOf rs n).take j).map fun p => (n, p.2)).foldl relax w0 = w0 := fun h => hb1 (hb2 h)
            generalize hW : (E1 ++ ((rulesOf rs n).take j).map fun p => (n, p.2)).foldl relax w0 = W at hd8 hb1 hmuF ⊢
            show _
            refine ⟨u, _, rfl, SqT.of hw1, rfl, _, _, rfl, _, _, rfl, rfl, ?_⟩
            refine ⟨_, rfl, _, rfl, d, w1, kvsW names W, W, r.2, rfl, hd8, fun x hx => kvsW_val (hin2.2 x hx), hw2, Nat.le_trans (hsn.2 r hrm) (by decide), fun H9 sm9 => ?_⟩
            have hd9 := sm9 _ _ hd8
            have sm89 := sm8.trans sm9
            have hP9 : Paired (RuleAt H9) us (rulesOf rs n) := Paired.mapP hP8 fun _ _ h => h.same sm9
            have hl9 := sm9 _ _ hl8
            have hus9 := sm9 _ _ hus8
            refine ⟨_, rfl, rfl, _, rfl, ?_⟩
            have hrel : relax W (n, r.2) = match addW W r.2 with
              | none => W
              | some s => match W n with
                | none => fun m => if m = n then some (s + 1) else W m
                | some v => if s + 1 < v then (fun m => if m = n then some (s + 1) else W m) else W := rfl
            cases hs : addW W r.2 with
            | none =>
              refine iteF ?_
              rw [hs] at hrel
              simp only at hrel
              refine ⟨b, _, _, _, rfl, sm89, hl9, hus9, hP9, ?_, ?_, hb2⟩
              · show H9 d = some (.dK (kvsW names (relax W (n, r.2))))
                rw [hrel]; exact hd9
              · show b = false → relax W (n, r.2) = w0
                rw [hrel]; exact hb1
            | some s =>
              refine iteT ?_
              rw [hs] at hrel
              simp only at hrel
              have hvn : valV (kvsW names W) (Sum.inr n : Key) = some (optV (W n)) := kvsW_val hnm
              -- the writing of a less one
              have put : ∀ H2 : Hp, H2 = H9 → (relax W (n, r.2) = fun m => if m = n then some (s + 1) else W m) → (relax W (n, r.2) ≠ W) →
                  ∃ (b : Bool) (x4' x5' x6' : Option V), [some (V.ref g), some (V.ref d), some (V.bl true), some (V.str n), some (V.str r.1), some (V.ref w1), some (V.int (s : Int))] = [some (.ref g), some (.ref d), some (.bl b), some (.str n), x4', x5', x6'] ∧ Same H (upd H2 d (.dK (putK (kvsW names W) (Sum.inr n : Key) (.int ((s : Int) + 1))))) ∧ (upd H2 d (.dK (putK (kvsW names W) (Sum.inr n : Key) (.int ((s : Int) + 1))))) p1 = some (.lst (names.map V.str)) ∧ (upd H2 d (.dK (putK (kvsW names W) (Sum.inr n : Key) (.int ((s : Int) + 1))))) p2 = some (.lst (us.map V.ref)) ∧ Paired (RuleAt (upd H2 d (.dK (putK (kvsW names W) (Sum.inr n : Key) (.int ((s : Int) + 1)))))) us (rulesOf rs n) ∧ (upd H2 d (.dK (putK (kvsW names W) (Sum.inr n : Key) (.int ((s : Int) + 1))))) d = some (.dK (kvsW names (relax W (n, r.2)))) ∧ (b = false → relax W (n, r.2) = w0) ∧ (w0 = muW (edP names rs) → b = false) := fun H2 e1 e2 e3 => by
                subst e1
                refine ⟨true, _, _, _, rfl, same_mut sm89 hd0, by rw [upd_ne (ne_of hl9 hd9 (by intro z; cases z))]; exact hl9, by rw [upd_ne (ne_of hus9 hd9 (by intro z; cases z))]; exact hus9, Paired.mapP hP9 fun _ _ h => h.dict hd9, by rw [upd_same, kvsW_put hnm, e2], fun h => (by cases h), fun h => ?_⟩
                exfalso
                have hWm : W = muW (edP names rs) := (hmuF h).trans h
                rw [hWm] at e3
                exact e3 (relax_mu (hEin r hrm))
              refine ⟨_, rfl, _, rfl, d, _, rfl, .inl ⟨_, Sum.inr n, .inl hd9, rfl, hvn.symm⟩, rfl, _, rfl, ?_⟩
              cases hv : W n with
              | none =>
                refine iteT ?_
                rw [hv] at hrel
                simp only at hrel
                refine ⟨_, rfl, _, _, rfl, rfl, _, rfl, _, rfl, d, _, rfl, DPut.k (k := Sum.inr n) hd9 (sl1 (by rw [kvsW_len]; omega)), ?_⟩
                exact put _ rfl hrel fun z => by
                  have := congrFun (hrel.symm.trans z) n
                  simp only [if_true] at this
                  rw [hv] at this
                  cases this
              | some v =>
                refine iteF ?_
                rw [hv] at hrel hvn
                simp only at hrel
                refine ⟨_, rfl, _, _, rfl, rfl, _, rfl, _, rfl, d, _, rfl, .inl ⟨_, Sum.inr n, .inl hd9, rfl, hvn.symm⟩, _, _, rfl, rfl, _, rfl, iteB (fun hc => ?_) (fun hc => ?_)⟩
                · have hlt : s + 1 < v := by
                    have := of_decide_eq_true hc
                    omega
                  rw [if_pos hlt] at hrel
                  refine ⟨_, rfl, _, _, rfl, rfl, _, rfl, _, rfl, d, _, rfl, DPut.k (k := Sum.inr n) hd9 (sl1 (by rw [kvsW_len]; omega)), ?_⟩
                  exact put _ rfl hrel fun z => by
                    have := congrFun (hrel.symm.trans z) n
                    simp only [if_true] at this
                    rw [hv] at this
                    have := Option.some.inj this
                    omega
                · have hlt : ¬ s + 1 < v := by
                    have := of_decide_eq_false hc
                    omega
                  rw [if_neg hlt] at hrel
                  refine ⟨b, _, _, _, rfl, sm89, hl9, hus9, hP9, ?_, ?_, hb2⟩
                  · show H9 d = some (.dK (kvsW names (relax W (n, r.2))))
                    rw [hrel]; exact hd9
                  · show b = false → relax W (n, r.2) = w0
                    rw [hrel]; exact hb1
          · rintro σ' H8 ⟨b, x4, x5, x6, rfl, sm8, hl8, hus8, hP8, hd8, hb1, hb2⟩
            rw [List.length_map, paired_len hP8, List.take_length] at hd8 hb1
            exact ⟨b, _, _, _, _, rfl, sm8, hl8, hd8, hb1, hb2⟩
        · rintro σ' H6 ⟨b, x3, x4, x5, x6, rfl, sm6, hl6, hd6, hb1, hb2⟩
          rw [List.length_map, List.take_length] at hd6 hb1
          exact ⟨b, _, _, _, _, rfl, sm6, hd6, hb1, hb2⟩
    · refine iteF ?_
      rw [hmu, normW_edP fun r hr1 => (hin r hr1).1] at hd4
      exact ⟨_, rfl, q d H4 hd0 sm4 hd4⟩
end
section
variable {P : Program} {w : World} {K : PySem.W.Frag} {mg : Str → Option Value} {base : Heap} {A : Ad}
def sp_endless (C : Addr) : Sp := fun vs H Q _ => ∃ (g : Addr) (names : List Str) (rs : List Rule), vs = [.ref g] ∧ GramAt C H g names rs ∧ names.Nodup ∧ names.length ≤ 1000 ∧ (∀ r ∈ rs, r.1 ∈ names ∧ ∀ x ∈ r.2.2, x ∈ names) ∧ ShortR rs ∧ ∀ p H', H p = none → Same H H' → H' p = some (.lst ((endl names (normW rs)).map V.str)) → Q (.ref p) H'
theorem ok_endless (T : Txt K mg A) : FnOk P w K mg base CX0 3 A.a_endless A.d_endless ["grammar"] (sp_endless A.c_Grammar) := by
  have G_norms : FnOk P w K mg base CX0 2 A.a_norms A.d_norms ["grammar"] (sp_norms A.c_Grammar) := ok_norms T
  have G_Grammar_names : FnOk P w K mg base CX0 1 A.a_Grammar_names A.d_Grammar_names ["self"] (sp_G_names A.c_Grammar) := ok_Grammar_names T
  refine T.F_endless.ok sc_endless (fun vs H Q E h => ?_) (fun cdv A0 outer s0 H vs Q E hr h => ?_)
  · obtain ⟨_, _, _, rfl, _⟩ := h
    rfl
  · obtain ⟨g, names, rs, rfl, G, hnd, hnl, hin, hsh, q⟩ := h
    have hu := hu_of hr
    obtain ⟨dx, kn, st, od, hg⟩ := G.ins
    refine ⟨_, (pss_cons (ps_set (i := 1) sc_endless.nd rfl (Or.inr rfl) (pe_call G_norms (hr.mono (by decide)) (by rfl) T.g_norms T.F_norms.kp T.b_norms .nil pass0 (pa_cons (pv 0) pa_nil)))
 (pss_one (ps_ret (pe_lc (own := [("name", 2)]) (g := gName 2) (by rfl) sc_endless.nd (pi_list (pe_meth0 (pv 0) T.cl_Grammar T.m_Grammar_names G_Grammar_names (hr.mono (by decide)) T.b_Grammar_names .nil pass0)) (blkOk_by (own := [("name", 2)]) (N := ["grammar", "found", "name"]) (sc := defScope s_endless) (by decide +kernel)) (fun _ _ _ _ _ => (pg_name (i := 2) sc_endless.nd rfl (Or.inl rfl))) (fun _ _ _ _ _ => pts_one (pt_cmpR op_isN (pe_dget hu (pv 1) (pv 2) (fun _ _ => rfl)) pe_non (nomark _))) (fun _ _ _ _ _ => (pv 2)))))), ?_⟩
    refine ⟨_, rfl, g, names, rs, rfl, G, hnd, hnl, hin, hsh, fun d H1 _ sm1 hd1 => ?_⟩
    refine ⟨_, rfl, g, _, _, rfl, sm1 _ _ hg, gfs_no _ _ _ (by decide +kernel) (by decide +kernel) (by decide +kernel), g, names, rs, rfl, G.same sm1, fun p1 H2 hp1 sm2 hl2 => ?_⟩
    have sm12 := sm1.trans sm2
    refine ⟨p1, rfl, ⟨_, SqL.of hl2⟩, fun D hD => lc_list (K := K) (a := p1) (xs := names.map V.str) (fun i H' => Same H2 H' ∧ H' D = some (.lst ((endl (names.take i) (normW rs)).map V.str))) ?_ ?_ ?_ ?_⟩
    · exact ⟨same_new hD, upd_same⟩
    · rintro i H' _ ⟨sm, _⟩
      exact SqL.of (sm _ _ hl2)
    · rintro i x H' hi ⟨sm, h1⟩
      obtain ⟨n, hn, rfl⟩ := map_at hi
      have hnm := List.mem_of_getElem? hn
      have hv : valV (kvsW names (normW rs)) (Sum.inr n : Key) = some (optV (normW rs n)) := kvsW_val hnm
      refine ⟨rfl, _, rfl, _, rfl, d, _, rfl, .inl ⟨_, Sum.inr n, .inl (sm _ _ (sm2 _ _ hd1)), rfl, hv.symm⟩, rfl, _, rfl, ?_⟩
      rw [isNone_dec]
      have e : endl (names.take (i + 1)) (normW rs) = if (normW rs n).isNone = true then endl (names.take i) (normW rs) ++ [n] else endl (names.take i) (normW rs) := by
        rw [take_snoc hn]
        exact filter_snoc _ _ _
      have hle : (endl (names.take i) (normW rs)).length ≤ 1000 := by
        have h1 : (endl (names.take i) (normW rs)).length ≤ (names.take i).length := List.length_filter_le _ _
        rw [List.length_take] at h1
        omega
      refine iteB (fun hc => ?_) (fun hc => ?_)
      · rw [if_pos hc] at e
        refine ⟨_, rfl, _, h1, by rw [List.length_map]; exact sl1 (by omega), same_mut sm hD, ?_⟩
        rw [upd_same, e, List.map_append]
        rfl
      · rw [if_neg (by rw [hc]; exact Bool.false_ne_true)] at e
        rw [e]
        exact ⟨sm, h1⟩
    · rintro H3 ⟨sm3, h3⟩
      rw [List.length_map, List.take_length] at h3
      exact q D H3 (sm12.free hD) (sm12.trans sm3) h3
end
end SG
namespace SG
open PySem PySem.Spec PyProof.Rows L2
section
variable {P : Program} {w : World} {K : PySem.W.Frag} {mg : Str → Option Value} {base : Heap} {A : Ad}
theorem ok__law_draw (T : Txt K mg A) : FnOk P w K mg base CX0 1 A.a__law_draw A.d__law_draw ["_law_well_here", "_law_many"] sp_draw := by
  refine T.F__law_draw.ok sc__law_draw (fun vs H Q E h => ?_) (fun cdv A0 outer s0 H vs Q E hr h => ?_)
  · obtain ⟨_, _, _, rfl, _⟩ := h
    rfl
  · obtain ⟨s, k, n, rfl, ⟨a, b, c, hs, ha, hc, hcn⟩, hn, hk, hk2, q⟩ := h
    refine ⟨_, (pss_cons (ps_if (pt_cmpR op_gt (pe_ix (r := rIxL K) ix_list (pv 0) pe_int (fun _ _ => rfl)) pe_int (nomark _)) (pss_cons (ps_set (i := 2) sc__law_draw.nd rfl (Or.inl rfl) (pe_op op_mod (pe_ix (r := rIxL K) ix_list (pv 0) pe_int (fun _ _ => rfl)) (pv 1)))
 (pss_cons (ps_asg (pe_op op_fdivW (pe_ix (r := rIxL K) ix_list (pv 0) pe_int (fun _ _ => rfl)) (pv 1)) (pg_sub (pv 0) pe_int set_list))
 (pss_one (ps_ret (pv 2))))) pss_nil)
 (pss_cons (ps_asg (pe_op op_add (pe_ix (r := rIxL K) ix_list (pv 0) pe_int (fun _ _ => rfl)) pe_int) (pg_sub (pv 0) pe_int set_list))
 (pss_cons (ps_set (i := 3) sc__law_draw.nd rfl (Or.inl rfl) (pe_op op_add (pe_op op_mod (pe_ix (r := rIxL K) ix_list (pv 0) pe_int (fun _ _ => rfl)) pe_int) (pe_op op_mod (pe_op op_fdivW (pe_ix (r := rIxL K) ix_list (pv 0) pe_int (fun _ _ => rfl)) pe_int) pe_int)))
 (pss_cons (ps_set (i := 4) sc__law_draw.nd rfl (Or.inl rfl) (pe_op op_mod (pe_op op_pow (pe_op op_add (pe_op op_add (pv 3) (pe_op op_mul pe_int (pe_ix (r := rIxL K) ix_list (pv 0) pe_int (fun _ _ => rfl)))) pe_int) pe_int) pe_int))
 (pss_cons (ps_set (i := 4) sc__law_draw.nd rfl (Or.inl rfl) (pe_op op_mod (pe_op op_mul (pv 4) (pe_op op_add (pe_op op_add (pe_op op_fdiv (pv 4) pe_int) pe_int) (pe_ix (r := rIxL K) ix_list (pv 0) pe_int (fun _ _ => rfl)))) pe_int))
 (pss_one (ps_ret (pe_op op_mod (pe_op op_mod (pe_op op_mul (pv 4) (pe_op op_add (pe_op op_fdiv (pv 4) pe_int) pe_int)) pe_int) (pv 1))))))))), ?_⟩
    refine ⟨_, rfl, _, _, _, _, rfl, rfl, SqL.of hs, atI_nat (j := 0) rfl, _, _, rfl, rfl, _, rfl, ite2 (fun h1 => ?_) (fun h1 => ?_)⟩
    · refine ⟨_, rfl, _, _, _, _, rfl, rfl, SqL.of hs, atI_nat (j := 0) rfl, _, rfl, _, _, rfl, rfl, hk, ?_⟩
      refine ⟨_, rfl, _, _, _, _, rfl, rfl, SqL.of hs, atI_nat (j := 0) rfl, _, rfl, _, _, rfl, rfl, ⟨hk, Nat.lt_of_lt_of_le (PySem.Flt.log2_lt_of (by decide) (show k.natAbs < 2 ^ 30 by omega)) (by decide)⟩, ?_⟩
      refine ⟨_, rfl, s, _, _, 0, rfl, rfl, hs, rfl, ?_⟩
      refine ⟨_, rfl, q _ _ (Int.emod_nonneg _ (by omega)) (Int.emod_lt_of_pos _ hk) ((But.refl s H).own _) ⟨a / k, b, c, upd_same, ?_, hc, by omega⟩⟩
      exact Int.ediv_nonneg ha (by omega)
    · refine ⟨_, rfl, _, _, _, _, rfl, rfl, SqL.of hs, atI_nat (j := 2) rfl, _, _, rfl, rfl, ?_⟩
      refine ⟨_, rfl, s, _, _, 2, rfl, rfl, hs, rfl, ?_⟩
      have hs1 : (upd H s (.lst ([V.int a, V.int b, V.int c].set 2 (V.int (c + 1))))) s = some (.lst [.int a, .int b, .int (c + 1)]) := upd_same
      have hw1 : WellAt (upd H s (.lst ([V.int a, V.int b, V.int c].set 2 (V.int (c + 1))))) s (n + 1) := ⟨a, b, c + 1, hs1, ha, by omega, by omega⟩
      have hb1 : But s H (upd H s (.lst ([V.int a, V.int b, V.int c].set 2 (V.int (c + 1))))) := (But.refl s H).own _
      have q1 := fun j h0 h1 => q j _ h0 h1 hb1 hw1
      show _
      generalize (upd H s (.lst ([V.int a, V.int b, V.int c].set 2 (V.int (c + 1))))) = H1 at hs1 q1 ⊢
      have ix1 : atI [V.int a, V.int b, V.int (c + 1)] 1 = some (.int b) := atI_nat (j := 1) rfl
      have ix2 : atI [V.int a, V.int b, V.int (c + 1)] 2 = some (.int (c + 1)) := atI_nat (j := 2) rfl
      refine ⟨_, rfl, _, _, _, _, rfl, rfl, SqL.of hs1, ix1, _, _, rfl, rfl, lt0, _, rfl, _, _, _, _, rfl, rfl, SqL.of hs1, ix1, _, _, rfl, rfl, ⟨by decide, Nat.lt_of_lt_of_le (PySem.Flt.log2_lt_of (by decide) (show (2147483629 : Int).natAbs < 2 ^ 31 by decide)) (by decide)⟩, _, _, rfl, rfl, lt0, _, _, rfl, rfl, ?_⟩
      refine ⟨_, rfl, _, rfl, _, _, _, _, rfl, rfl, SqL.of hs1, ix2, _, _, rfl, rfl, .inl ⟨by decide, by decide⟩, _, _, rfl, rfl, _, _, rfl, rfl, _, _, rfl, rfl, ⟨by decide, by decide, by omega⟩, _, _, rfl, rfl, lt0, ?_⟩
      dsimp only
      have z0 := Int.emod_nonneg ((b % 2147483629 + b / 2147483629 % 65521 + 7919 * (c + 1) + 1) ^ (5 : Int).toNat) (show (2147483647 : Int) ≠ 0 by decide)
      have z1 := Int.emod_lt_of_pos ((b % 2147483629 + b / 2147483629 % 65521 + 7919 * (c + 1) + 1) ^ (5 : Int).toNat) (show (0 : Int) < 2147483647 by decide)
      generalize (b % 2147483629 + b / 2147483629 % 65521 + 7919 * (c + 1) + 1) ^ (5 : Int).toNat % 2147483647 = z at z0 z1 ⊢
      refine ⟨_, rfl, _, rfl, _, _, rfl, rfl, ⟨by decide, by decide⟩, _, _, rfl, rfl, _, rfl, _, _, _, _, rfl, rfl, SqL.of hs1, ix2, _, _, rfl, rfl, _, _, rfl, rfl, .inl ⟨by omega, by omega⟩, _, _, rfl, rfl, lt0, ?_⟩
      dsimp only
      have y0 := Int.emod_nonneg (z * (z / 1009 + 69621 + (c + 1))) (show (2147483629 : Int) ≠ 0 by decide)
      have y1 := Int.emod_lt_of_pos (z * (z / 1009 + 69621 + (c + 1))) (show (0 : Int) < 2147483629 by decide)
      generalize z * (z / 1009 + 69621 + (c + 1)) % 2147483629 = y at y0 y1 ⊢
      refine ⟨_, rfl, _, rfl, _, _, rfl, rfl, ⟨by decide, by decide⟩, _, _, rfl, rfl, _, _, rfl, rfl, .inl ⟨by omega, by omega⟩, _, _, rfl, rfl, lt0, _, rfl, _, _, rfl, rfl, hk, ?_⟩
      exact q1 _ (Int.emod_nonneg _ (by omega)) (Int.emod_lt_of_pos _ hk)
end
end SG
namespace SG
open PySem PySem.Spec PyProof.Rows L2
section
variable {P : Program} {w : World} {K : PySem.W.Frag} {mg : Str → Option Value} {base : Heap} {A : Ad}
theorem ok__law_cell_at (T : Txt K mg A) : FnOk P w K mg base CX0 1 A.a__law_cell_at A.d__law_cell_at ["_law_script", "_law_k"] (sp_cell_at K) := by
  refine T.F__law_cell_at.ok sc__law_cell_at (fun vs H Q E h => ?_) (fun cdv A0 outer s0 H vs Q E hr h => ?_)
  · obtain ⟨_, _, _, rfl, _⟩ := h
    rfl
  · obtain ⟨a, ns, k, rfl, ha, q⟩ := h
    refine ⟨_, (pss_cons (ps_if (pt_cmpR op_lt (pv 1) (pe_callB (id := "len") (r := Evl.rLenS K) call_len_seq (by rfl) T.len (by decide +kernel) (pa_cons (pv 0) pa_nil)) (nomark _)) (pss_one (ps_ret (pe_ix (r := rIxL K) ix_list (pv 0) (pv 1) (fun _ _ => rfl)))) pss_nil)
 (pss_one (ps_ret pe_int))), ?_⟩
    refine ⟨_, rfl, _, rfl, _, _, rfl, .inl ha, _, _, rfl, rfl, _, rfl, iteB (fun h1 => ?_) (fun h1 => ?_)⟩
    · have hk : (k : Int) < ((ns.map V.int).length : Int) := of_decide_eq_true h1
      obtain ⟨v, hv, hm⟩ := atI_some (xs := ns.map V.int) (i := (k : Int)) (by omega) hk
      obtain ⟨z, _, rfl⟩ := List.mem_map.mp hm
      exact ⟨_, rfl, _, rfl, _, _, _, _, rfl, rfl, ha, hv, q z⟩
    · exact q 0
theorem ok__law_well (T : Txt K mg A) : FnOk P w K mg base CX0 1 A.a__law_well A.d__law_well ["_law_cell"] sp_well := by
  refine T.F__law_well.ok sc__law_well (fun vs H Q E h => ?_) (fun cdv A0 outer s0 H vs Q E hr h => ?_)
  · obtain ⟨_, rfl, _⟩ := h
    rfl
  · obtain ⟨c, rfl, q⟩ := h
    refine ⟨_, (pss_one (ps_ret (pe_lst (pa_cons (pe_op op_mul (pv 0) (pe_callTy (T := "int") call_int1 (by rfl) T.int_ (by decide +kernel) (pa_cons (pe_cmpR op_ge (pv 0) (pe_op op_pow pe_int pe_int) (nomark _)) pa_nil))) (pa_cons (pv 0) (pa_cons pe_int pa_nil)))))), ?_⟩
    refine ⟨_, rfl, _, rfl, _, _, rfl, rfl, ⟨by decide, by decide, by decide⟩, _, _, rfl, rfl, .inr ⟨_, rfl, _, _, rfl, rfl, ?_⟩⟩
    have e9 : ((10 : Int) ^ (18 : Int).toNat) = 1000000000000000000 := by decide
    refine ⟨.inr ⟨by split <;> decide, by split <;> decide⟩, _, rfl, sl2 (by show 3 ≤ 1000000; decide), fun p hp => q p _ hp (same_new hp) ⟨_, c, 0, upd_same, ?_, by decide, by decide⟩⟩
    rw [e9]
    split
    · rename_i h
      have := of_decide_eq_true h
      omega
    · omega
theorem ok__law_one (T : Txt K mg A) : FnOk P w K mg base CX0 2 A.a__law_one A.d__law_one ["_law_well_here", "_law_some"] sp_one := by
  have G__law_draw : FnOk P w K mg base CX0 1 A.a__law_draw A.d__law_draw ["_law_well_here", "_law_many"] sp_draw := ok__law_draw T
  refine T.F__law_one.ok sc__law_one (fun vs H Q E h => ?_) (fun cdv A0 outer s0 H vs Q E hr h => ?_)
  · obtain ⟨_, _, _, _, rfl, _⟩ := h
    rfl
  · obtain ⟨s, a, xs, n, rfl, hw, hn, ha, nas, h0, hl, q⟩ := h
    refine ⟨_, (pss_one (ps_ret (pe_ix (r := rIxL K) ix_list (pv 1) (pe_call G__law_draw (hr.mono (by decide)) (by rfl) T.g__law_draw T.F__law_draw.kp T.b__law_draw .nil pass0 (pa_cons (pv 0) (pa_cons (pe_callB (id := "len") (r := Evl.rLenS K) call_len_seq (by rfl) T.len (by decide +kernel) (pa_cons (pv 1) pa_nil)) pa_nil))) (fun _ _ => rfl)))), ?_⟩
    refine ⟨_, rfl, _, rfl, _, rfl, _, _, rfl, .inl (SqL.of ha), s, _, n, rfl, hw, hn, by omega, by omega, fun j H1 j0 j1 bt hw1 => ?_⟩
    obtain ⟨v, hv, hm⟩ := atI_some j0 j1
    exact ⟨_, _, _, _, rfl, rfl, SqL.of (bt _ _ nas ha), hv, q v H1 hm bt hw1⟩
theorem ok__law_names (T : Txt K mg A) : FnOk P w K mg base CX0 2 A.a__law_names A.d__law_names ["_law_well_here", "_law_many"] sp_namesB := by
  have G__law_draw : FnOk P w K mg base CX0 1 A.a__law_draw A.d__law_draw ["_law_well_here", "_law_many"] sp_draw := ok__law_draw T
  refine T.F__law_names.ok sc__law_names (fun vs H Q E h => ?_) (fun cdv A0 outer s0 H vs Q E hr h => ?_)
  · obtain ⟨_, _, _, rfl, _⟩ := h
    rfl
  · obtain ⟨s, m, n, rfl, hm, hw, hn, q⟩ := h
    refine ⟨_, (pss_cons (ps_set (i := 2) sc__law_names.nd rfl (Or.inr rfl) (pe_join pe_str (pe_lc (own := [("_law_k", 4)]) (g := gName 4) (by rfl) sc__law_names.nd (pi_range1 (by rfl) T.range (pa_cons (pe_call G__law_draw (hr.mono (by decide)) (by rfl) T.g__law_draw T.F__law_draw.kp T.b__law_draw .nil pass0 (pa_cons (pv 0) (pa_cons pe_int pa_nil))) pa_nil)) (blkOk_by (own := [("_law_k", 4)]) (N := ["_law_well_here", "_law_many", "_law_stem", "_law_first", "_law_k"]) (sc := defScope s__law_names) (by decide +kernel)) (fun _ _ _ _ _ => (pg_name (i := 4) sc__law_names.nd rfl (Or.inl rfl))) (fun _ _ _ _ _ => pts_nil) (fun _ _ _ _ _ => (pe_ix (r := rIxS) ix_str pe_str (pe_call G__law_draw (hr.mono (by decide)) (by rfl) T.g__law_draw T.F__law_draw.kp T.b__law_draw .nil pass0 (pa_cons (pv 0) (pa_cons pe_int pa_nil))) (fun _ _ => rfl))))))
 (pss_cons (ps_set (i := 3) sc__law_names.nd rfl (Or.inr rfl) (pe_call G__law_draw (hr.mono (by decide)) (by rfl) T.g__law_draw T.F__law_draw.kp T.b__law_draw .nil pass0 (pa_cons (pv 0) (pa_cons pe_int pa_nil))))
 (pss_one (ps_ret (pe_lc (own := [("_law_k", 4)]) (g := gName 4) (by rfl) sc__law_names.nd (pi_range1 (by rfl) T.range (pa_cons (pv 1) pa_nil)) (blkOk_by (own := [("_law_k", 4)]) (N := ["_law_well_here", "_law_many", "_law_stem", "_law_first", "_law_k"]) (sc := defScope s__law_names) (by decide +kernel)) (fun _ _ _ _ _ => (pg_name (i := 4) sc__law_names.nd rfl (Or.inl rfl))) (fun _ _ _ _ _ => pts_nil) (fun _ _ _ _ _ => (pe_op op_add_str (pv 2) (pe_ix (r := rIxS) ix_str pe_str (pe_op op_mod (pe_op op_add (pv 3) (pe_op op_mul pe_int (pv 4))) pe_int) (fun _ _ => rfl))))))))), ?_⟩
    refine ⟨⟨_, rfl⟩, _, rfl, s, _, n, rfl, hw, by omega, by decide, by decide, fun j H1 j0 j1 bt1 hw1 => ?_⟩
    refine ⟨_, rfl, by omega, by omega, fun D hD => lc_range (fun i H' => ∃ ls : List Nat, But s H H' ∧ WellAt H' s (n + 1 + i) ∧ H' D = some (.lst ((ls.map fun c => (⟨#[c]⟩ : Str)).map V.str)) ∧ ls.length = i ∧ Smalls ls) ?_ ?_ ?_⟩
    · exact ⟨[], bt1.cell (bt1.freeW hw1 hD) _, hw1.cell hw1 hD, upd_same, rfl, fun c h => by simp at h⟩
    · rintro i H2 hi ⟨ls, bt2, hw2, h2, hl, hs⟩
      refine ⟨rfl, tyes (iteT ?_)⟩
      refine ⟨_, rfl, s, _, n + 1 + i, rfl, hw2, by omega, by decide, by decide, fun k H3 k0 k1 bt3 hw3 => ?_⟩
      have h3 := bt3 _ _ (hw2.ne_strs h2) h2
      refine ⟨_, _, _, rfl, rfl, by decide +kernel, letter_at k0 k1, _, h3, by rw [List.length_map, List.length_map]; exact sl1 (by omega), ls ++ [97 + k.toNat], (bt2.trans bt3).cell (bt1.freeW hw1 hD) _, hw3.cell hw1 hD, by rw [upd_same, List.map_append, List.map_append]; rfl, by simp [hl], fun c hc => ?_⟩
      rcases List.mem_append.mp hc with hc | hc
      · exact hs c hc
      · rw [List.mem_singleton.mp hc]; omega
    rintro H2 ⟨ls, bt2, hw2, h2, hl, hs⟩
    have hl5 : ls.length ≤ 5 := by omega
    refine ⟨"", D, _, rfl, rfl, .inl (SqL.of h2), ?_, ?_⟩
    · rw [List.length_map, show ("" : Str).length = 0 from rfl, Nat.mul_zero, Nat.add_zero, List.map_map]
      have e : (ls.map ((fun x : Str => x.length) ∘ fun c => (⟨#[c]⟩ : Str))) = ls.map fun _ => 1 := List.map_congr_left fun _ _ => rfl
      rw [e]
      have e2 : (ls.map fun _ => 1).sum = ls.length := by
        clear e hl hs hw2 h2 hl5
        induction ls with
        | nil => rfl
        | cons x t ih => rw [List.map_cons, List.sum_cons, ih, List.length_cons]; omega
      rw [e2]
      omega
    rw [show Txt.join "" (ls.map fun c => (⟨#[c]⟩ : Str)) = ⟨ls.toArray⟩ from (TL.join_eq _ _).trans (join_one_signs ls)]
    refine ⟨_, rfl, s, _, _, rfl, hw2, by omega, by decide, by decide, fun f H3 f0 f1 bt3 hw3 => ?_⟩
    have bt13 := bt2.trans bt3
    refine ⟨_, rfl, (m : Int), rfl, by omega, by omega, fun D2 hD2 => lc_range (fun i H' => ∃ xs : List Str, Same H3 H' ∧ H' D2 = some (.lst (xs.map V.str)) ∧ xs.length = i ∧ ∀ (j : Nat) x, xs[j]? = some x → CalledB ls f j x) ?_ ?_ ?_⟩
    · exact ⟨[], same_new hD2, upd_same, rfl, fun j x h => by simp at h⟩
    · rintro i H4 hi ⟨xs, sm, h4, hlx, hx⟩
      refine ⟨rfl, tyes (iteT ?_)⟩
      refine ⟨_, rfl, _, rfl, _, rfl, _, _, rfl, rfl, .inl ⟨by omega, by omega⟩, _, _, rfl, rfl, _, _, rfl, rfl, lt0, _, _, _, rfl, rfl, by decide +kernel, letter12_at (by omega) (by omega), _, _, rfl, rfl, ?_, _, h4, by rw [List.length_map]; exact sl1 (by omega), xs ++ [_], same_mut sm hD2, by rw [upd_same, List.map_append]; rfl, by simp [hlx], fun j x hj => ?_⟩
      · show ls.toArray.size + 1 ≤ sizeLine
        rw [List.size_toArray, sizeLine_eq]; omega
      rw [List.getElem?_append] at hj
      by_cases c : j < xs.length
      · rw [if_pos c] at hj
        exact hx j x hj
      · rw [if_neg c] at hj
        have hj0 : j - xs.length = 0 := by
          have := (List.getElem?_eq_some_iff.mp hj).1
          simp at this
          omega
        rw [hj0] at hj
        have e : _ = x := Option.some.inj hj
        have ej : j = i := by omega
        subst ej
        unfold CalledB
        rw [← e, ← app_sign, Int.zero_add]
    · rintro H4 ⟨xs, sm, h4, hlx, hx⟩
      exact q D2 H4 xs (bt13.freeW hw3 hD2) (bt13.same sm) ((hw3.same sm).mono (by omega)) h4 ⟨by simpa using hlx, ls, f, hl5, hs, hx⟩
theorem ok__law_signs (T : Txt K mg A) : FnOk P w K mg base CX0 2 A.a__law_signs A.d__law_signs ["_law_well_here", "_law_many"] sp_signsB := by
  have G__law_draw : FnOk P w K mg base CX0 1 A.a__law_draw A.d__law_draw ["_law_well_here", "_law_many"] sp_draw := ok__law_draw T
  refine T.F__law_signs.ok sc__law_signs (fun vs H Q E h => ?_) (fun cdv A0 outer s0 H vs Q E hr h => ?_)
  · obtain ⟨_, _, _, rfl, _⟩ := h
    rfl
  · obtain ⟨s, m, n, rfl, hm, hw, hn, q⟩ := h
    refine ⟨_, (pss_cons (ps_set (i := 2) sc__law_signs.nd rfl (Or.inr rfl) (pe_call G__law_draw (hr.mono (by decide)) (by rfl) T.g__law_draw T.F__law_draw.kp T.b__law_draw .nil pass0 (pa_cons (pv 0) (pa_cons pe_int pa_nil))))
 (pss_one (ps_ret (pe_lc (own := [("_law_k", 3)]) (g := gName 3) (by rfl) sc__law_signs.nd (pi_range1 (by rfl) T.range (pa_cons (pv 1) pa_nil)) (blkOk_by (own := [("_law_k", 3)]) (N := ["_law_well_here", "_law_many", "_law_first", "_law_k"]) (sc := defScope s__law_signs) (by decide +kernel)) (fun _ _ _ _ _ => (pg_name (i := 3) sc__law_signs.nd rfl (Or.inl rfl))) (fun _ _ _ _ _ => pts_nil) (fun _ _ _ _ _ => (pe_ix (r := rIxS) ix_str pe_str (pe_op op_mod (pe_op op_add (pv 2) (pe_op op_mul pe_int (pv 3))) pe_int) (fun _ _ => rfl))))))), ?_⟩
    refine ⟨_, rfl, s, _, n, rfl, hw, by omega, by decide, by decide, fun f H1 f0 f1 bt1 hw1 => ?_⟩
    refine ⟨_, rfl, (m : Int), rfl, by omega, by omega, fun D hD => lc_range (fun i H' => ∃ xs : List Str, Same H1 H' ∧ H' D = some (.lst (xs.map V.str)) ∧ xs.length = i ∧ ∀ (j : Nat) x, xs[j]? = some x → SignB f j x) ?_ ?_ ?_⟩
    · exact ⟨[], same_new hD, upd_same, rfl, fun j x h => by simp at h⟩
    · rintro i H2 hi ⟨xs, sm, h2, hl, hx⟩
      refine ⟨rfl, tyes (iteT ?_)⟩
      refine ⟨_, rfl, _, rfl, _, _, rfl, rfl, .inl ⟨by omega, by omega⟩, _, _, rfl, rfl, _, _, rfl, rfl, lt0, _, _, _, rfl, rfl, by decide +kernel, letter_at (by omega) (by omega), _, h2, by rw [List.length_map]; exact sl1 (by omega), xs ++ [_], same_mut sm hD, by rw [upd_same, List.map_append]; rfl, by simp [hl], fun j x hj => ?_⟩
      rw [List.getElem?_append] at hj
      by_cases c : j < xs.length
      · rw [if_pos c] at hj
        exact hx j x hj
      · rw [if_neg c] at hj
        have hj0 : j - xs.length = 0 := by
          have := (List.getElem?_eq_some_iff.mp hj).1
          simp at this
          omega
        rw [hj0] at hj
        have e : _ = x := Option.some.inj hj
        have ej : j = i := by omega
        subst ej
        unfold SignB
        rw [← e, Int.zero_add]
    · rintro H2 ⟨xs, sm, h2, hl, hx⟩
      exact q D H2 xs (bt1.freeW hw1 hD) (bt1.same sm) (hw1.same sm) h2 ⟨by simpa using hl, f, hx⟩
theorem ok__law_mixed (T : Txt K mg A) : FnOk P w K mg base CX0 2 A.a__law_mixed A.d__law_mixed ["_law_well_here", "_law_some"] sp_mixed := by
  have G__law_draw : FnOk P w K mg base CX0 1 A.a__law_draw A.d__law_draw ["_law_well_here", "_law_many"] sp_draw := ok__law_draw T
  refine T.F__law_mixed.ok sc__law_mixed (fun vs H Q E h => ?_) (fun cdv A0 outer s0 H vs Q E hr h => ?_)
  · obtain ⟨_, _, _, _, rfl, _⟩ := h
    rfl
  · obtain ⟨s, a, xs, n, rfl, hw, hn, ha, nas, hl, q⟩ := h
    refine ⟨_, (pss_cons (ps_set (i := 2) sc__law_mixed.nd rfl (Or.inr rfl) (pe_callTy (T := "list") (r := Evl.rListS K) call_list_of (by rfl) T.list_ (by decide +kernel) (pa_cons (pv 1) pa_nil)))
 (pss_one (ps_ret (pe_lc (own := [("_law_k", 3)]) (g := gName 3) (by rfl) sc__law_mixed.nd (pi_range1 (by rfl) T.range (pa_cons (pe_callB (id := "len") (r := Evl.rLenS K) call_len_seq (by rfl) T.len (by decide +kernel) (pa_cons (pv 1) pa_nil)) pa_nil)) (blkOk_by (own := [("_law_k", 3)]) (N := ["_law_well_here", "_law_some", "_law_left", "_law_k"]) (sc := defScope s__law_mixed) (by decide +kernel)) (fun _ _ _ _ _ => (pg_name (i := 3) sc__law_mixed.nd rfl (Or.inl rfl))) (fun _ _ _ _ _ => pts_nil) (fun _ _ _ _ _ => (show PE _ _ (tBM K _ _ _ _) from (pe_bm PySem.F.plainAttrs_list PySem.F.slot_list_pop PySem.F.type_list_pop mt_popAt (pv 2) (pa_cons (pe_call G__law_draw (hr.mono (by decide)) (by rfl) T.g__law_draw T.F__law_draw.kp T.b__law_draw .nil pass0 (pa_cons (pv 0) (pa_cons (pe_callB (id := "len") (r := Evl.rLenS K) call_len_seq (by rfl) T.len (by decide +kernel) (pa_cons (pv 2) pa_nil)) pa_nil))) pa_nil)))))))), ?_⟩
    refine ⟨_, rfl, a, _, rfl, .inl (SqL.of ha), fun l hl0 => ?_⟩
    have sml := same_new hl0 (o := .lst xs)
    have hll : (upd H l (.lst xs)) l = some (.lst xs) := upd_same
    have hwl := hw.same sml
    have nls : l ≠ s := by
      obtain ⟨o, ho⟩ := hw.some
      exact (ne_of_none ho hl0).symm
    generalize (upd H l (.lst xs)) = H1 at sml hll hwl ⊢
    refine ⟨_, rfl, _, _, rfl, .inl (SqL.of (sml _ _ ha)), (xs.length : Int), rfl, by omega, by omega, fun D hD => lc_range (fun i H' => ∃ ys ls : List V, But s H H' ∧ WellAt H' s (n + i) ∧ H' l = some (.lst ls) ∧ H' D = some (.lst ys) ∧ (ys ++ ls).Perm xs ∧ ys.length = i) ?_ ?_ ?_⟩
    · have sD := same_new hD (o := .lst [])
      exact ⟨[], xs, but_of_same (sml.trans sD), hwl.same sD, sD _ _ hll, upd_same, List.Perm.refl _, rfl⟩
    · rintro i H2 hi ⟨ys, ls, bt2, hw2, hl2, hD2, hp, hy⟩
      have hi : i < xs.length := by simpa using hi
      have hlen := hp.length_eq
      rw [List.length_append] at hlen
      refine ⟨rfl, tyes (iteT ?_)⟩
      refine ⟨_, rfl, .inl ⟨rfl, _, SqL.of hl2⟩, _, rfl, _, rfl, _, _, rfl, .inl (SqL.of hl2), s, _, n + i, rfl, hw2, by omega, by omega, by omega, fun j H3 j0 j1 bt3 hw3 => ?_⟩
      have hl3 := bt3 _ _ nls hl2
      have nlD : l ≠ D := ne_of_none hll hD
      have hDs : D ≠ s := by
        obtain ⟨o, ho⟩ := hwl.some
        exact (ne_of_none ho hD).symm
      have hD3 := bt3 _ _ hDs hD2
      obtain ⟨v, hv, _⟩ := atI_some j0 j1
      obtain ⟨k, hk, hkv, hkl⟩ := atI_get hv
      refine ⟨l, ls, j, k, v, rfl, rfl, hl3, by omega, by omega, hk, hkv, ?_⟩
      have hl0' : H l = none := hl0
      have hD0 : H D = none := sml.free hD
      refine ⟨_, by rw [upd_ne nlD.symm]; exact hD3, by have := sl1 (n := ys.length) (by omega); exact this, ys ++ [v], ls.eraseIdx k, ((bt2.trans bt3).cell hl0' _).cell hD0 _, (hw3.cell hw hl0').cell hwl hD, by rw [upd_ne nlD, upd_same], upd_same, ?_, by simp [hy]⟩
      have h1 : (v :: ls.eraseIdx k).Perm ls := by
        have e : ls = ls.take k ++ v :: ls.drop (k + 1) := by
          conv => lhs; rw [← List.take_append_drop k ls, List.drop_eq_getElem_cons hkl.1]
          rw [(List.getElem?_eq_some_iff.mp hkv).2]
        rw [List.eraseIdx_eq_take_drop_succ]
        conv => rhs; rw [e]
        exact List.perm_middle.symm
      have h2 : (ys ++ [v] ++ ls.eraseIdx k).Perm (ys ++ ls) := by
        rw [List.append_assoc]
        exact (List.Perm.refl ys).append h1
      exact h2.trans hp
    · rintro H2 ⟨ys, ls, bt2, hw2, hl2, hD2, hp, hy⟩
      have hy : ys.length = xs.length := by simpa using hy
      have hlen := hp.length_eq
      rw [List.length_append] at hlen
      have e : ls = [] := List.eq_nil_of_length_eq_zero (by omega)
      rw [e, List.append_nil] at hp
      exact q D H2 ys (sml.free hD) bt2 (by simpa using hw2) hD2 hp
end
end SG
namespace SG
open PySem PySem.Spec PyProof.Rows L2
section
variable {P : Program} {w : World} {K : PySem.W.Frag} {mg : Str → Option Value} {base : Heap} {A : Ad}
theorem ok__law_rules (T : Txt K mg A) : FnOk P w K mg base CX0 3 A.a__law_rules A.d__law_rules ["_law_well_here", "_law_names_here", "_law_signs_here", "_law_plain", "_law_most"] sp_rulesB := by
  have G__law_draw : FnOk P w K mg base CX0 1 A.a__law_draw A.d__law_draw ["_law_well_here", "_law_many"] sp_draw := ok__law_draw T
  have G__law_one : FnOk P w K mg base CX0 2 A.a__law_one A.d__law_one ["_law_well_here", "_law_some"] sp_one := ok__law_one T
  refine T.F__law_rules.ok sc__law_rules (fun vs H Q E h => ?_) (fun cdv A0 outer s0 H vs Q E hr h => ?_)
  · obtain ⟨_, _, _, _, _, _, _, _, rfl, _⟩ := h
    rfl
  · obtain ⟨s, nl, sg, plain, most, names, signs, n, rfl, hw, hn, hnl, hsg, nnd, n1, n6, sne, slen, sok, q⟩ := h
    have hu := hu_of hr
    have hu64 := hu64_of hr
    have nne : names ≠ [] := fun e => by rw [e] at n1; simp at n1
    refine ⟨_, (pss_cons (ps_set (i := 5) sc__law_rules.nd rfl (Or.inl rfl) (pe_lst pa_nil))
 (pss_cons (ps_set (i := 6) sc__law_rules.nd rfl (Or.inr rfl) pe_dnewK)
 (pss_cons (ps_for PassesOwn.never rfl (pi_enum (by rfl) T.enumerate (pa_cons (pv 1) pa_nil)) (pg_tup (by rfl) (pgs_cons (pg_name (i := 7) sc__law_rules.nd rfl (Or.inl rfl)) (pgs_cons (pg_name (i := 8) sc__law_rules.nd rfl (Or.inr rfl)) pgs_nil)))
 (pss_cons (ps_set (i := 9) sc__law_rules.nd rfl (Or.inl rfl) (pe_lst pa_nil))
 (pss_cons (ps_for PassesOwn.never rfl (pi_range1 (by rfl) T.range (pa_cons (pe_op op_mul (pe_call G__law_one (hr.mono (by decide)) (by rfl) T.g__law_one T.F__law_one.kp T.b__law_one .nil pass0 (pa_cons (pv 0) (pa_cons (pe_lst (pa_cons pe_int (pa_cons pe_int (pa_cons pe_int (pa_cons pe_int (pa_cons pe_int pa_nil)))))) pa_nil))) (pe_callTy (T := "int") call_int1 (by rfl) T.int_ (by decide +kernel) (pa_cons (pe_cmpR op_gt (pv 7) pe_int (nomark _)) pa_nil))) pa_nil)) (pg_name (i := 10) sc__law_rules.nd rfl (Or.inl rfl))
 (pss_cons (ps_set (i := 11) sc__law_rules.nd rfl (Or.inl rfl) (pe_call G__law_one (hr.mono (by decide)) (by rfl) T.g__law_one T.F__law_one.kp T.b__law_one .nil pass0 (pa_cons (pv 0) (pa_cons (pe_slice (r := rSlL K) sl_list (pv 1) po_none (po_some (pv 7))) pa_nil))))
 (pss_one (ps_if (pt_cmpR op_lt (pe_op op_add (pe_callB (id := "sum") (r := rSum K) (cr_sum rfl) (by rfl) T.sum (by decide +kernel) (pa_cons (pe_lc (own := [("_law_other", 15)]) (g := gName 15) (by rfl) sc__law_rules.nd (pi_list (pv 9)) (blkOk_by (own := [("_law_other", 15)]) (N := ["_law_well_here", "_law_names_here", "_law_signs_here", "_law_plain", "_law_most", "_law_rules_here", "_law_known", "_law_k", "_law_name", "_law_row", "_law_j", "_law_one_here", "_law_letter", "_law_rule", "_law_mine", "_law_other"]) (sc := defScope s__law_rules) (by decide +kernel)) (fun _ _ _ _ _ => (pg_name (i := 15) sc__law_rules.nd rfl (Or.inl rfl))) (fun _ _ _ _ _ => pts_nil) (fun _ _ _ _ _ => (pe_dget hu (pv 6) (pv 15) (fun _ _ => rfl)))) pa_nil)) (pe_dget hu (pv 6) (pv 11) (fun _ _ => rfl))) (pv 4) (nomark _)) (pss_one (ps_expr (pe_bm PySem.F.plainAttrs_list PySem.F.slot_list_append PySem.F.type_list_append mt_append (pv 9) (pa_cons (pv 11) pa_nil)))) pss_nil))))
 (pss_cons (ps_dput hu (pv 6) (pv 8) (pe_op op_add pe_int (pe_callB (id := "sum") (r := rSum K) (cr_sum rfl) (by rfl) T.sum (by decide +kernel) (pa_cons (pe_lc (own := [("_law_other", 15)]) (g := gName 15) (by rfl) sc__law_rules.nd (pi_list (pv 9)) (blkOk_by (own := [("_law_other", 15)]) (N := ["_law_well_here", "_law_names_here", "_law_signs_here", "_law_plain", "_law_most", "_law_rules_here", "_law_known", "_law_k", "_law_name", "_law_row", "_law_j", "_law_one_here", "_law_letter", "_law_rule", "_law_mine", "_law_other"]) (sc := defScope s__law_rules) (by decide +kernel)) (fun _ _ _ _ _ => (pg_name (i := 15) sc__law_rules.nd rfl (Or.inl rfl))) (fun _ _ _ _ _ => pts_nil) (fun _ _ _ _ _ => (pe_dget hu (pv 6) (pv 15) (fun _ _ => rfl)))) pa_nil))) rfl)
 (pss_one (ps_expr (pe_bm PySem.F.plainAttrs_list PySem.F.slot_list_append PySem.F.type_list_append mt_append (pv 5) (pa_cons (pe_tup (pa_cons (pv 8) (pa_cons (pe_call G__law_one (hr.mono (by decide)) (by rfl) T.g__law_one T.F__law_one.kp T.b__law_one .nil pass0 (pa_cons (pv 0) (pa_cons (pv 2) pa_nil))) (pa_cons (pv 9) pa_nil)))) pa_nil))))))))
 (pss_cons (ps_for PassesOwn.never rfl (pi_range1 (by rfl) T.range (pa_cons (pe_call G__law_draw (hr.mono (by decide)) (by rfl) T.g__law_draw T.F__law_draw.kp T.b__law_draw .nil pass0 (pa_cons (pv 0) (pa_cons (pe_op op_add pe_int (pe_op op_mul pe_int (pe_callB (id := "len") (r := Evl.rLenS K) call_len_seq (by rfl) T.len (by decide +kernel) (pa_cons (pv 1) pa_nil)))) pa_nil))) pa_nil)) (pg_name (i := 7) sc__law_rules.nd rfl (Or.inl rfl))
 (pss_cons (ps_asg (pe_tup (pa_cons (pe_call G__law_one (hr.mono (by decide)) (by rfl) T.g__law_one T.F__law_one.kp T.b__law_one .nil pass0 (pa_cons (pv 0) (pa_cons (pv 1) pa_nil))) (pa_cons (pe_call G__law_one (hr.mono (by decide)) (by rfl) T.g__law_one T.F__law_one.kp T.b__law_one .nil pass0 (pa_cons (pv 0) (pa_cons (pv 2) pa_nil))) pa_nil))) (pg_tup (by rfl) (pgs_cons (pg_name (i := 8) sc__law_rules.nd rfl (Or.inr rfl)) (pgs_cons (pg_name (i := 12) sc__law_rules.nd rfl (Or.inl rfl)) pgs_nil))))
 (pss_cons (ps_set (i := 13) sc__law_rules.nd rfl (Or.inl rfl) (pe_tup (pa_cons (pv 8) (pa_cons (pv 12) (pa_cons (pe_lc (own := [("_law_j", 10)]) (g := gName 10) (by rfl) sc__law_rules.nd (pi_range1 (by rfl) T.range (pa_cons (pe_call G__law_one (hr.mono (by decide)) (by rfl) T.g__law_one T.F__law_one.kp T.b__law_one .nil pass0 (pa_cons (pv 0) (pa_cons (pe_lst (pa_cons pe_int (pa_cons pe_int (pa_cons pe_int (pa_cons pe_int pa_nil))))) pa_nil))) pa_nil)) (blkOk_by (own := [("_law_j", 10)]) (N := ["_law_well_here", "_law_names_here", "_law_signs_here", "_law_plain", "_law_most", "_law_rules_here", "_law_known", "_law_k", "_law_name", "_law_row", "_law_j", "_law_one_here", "_law_letter", "_law_rule", "_law_mine", "_law_other"]) (sc := defScope s__law_rules) (by decide +kernel)) (fun _ _ _ _ _ => (pg_name (i := 10) sc__law_rules.nd rfl (Or.inl rfl))) (fun _ _ _ _ _ => pts_nil) (fun _ _ _ _ _ => (pe_call G__law_one (hr.mono (by decide)) (by rfl) T.g__law_one T.F__law_one.kp T.b__law_one .nil pass0 (pa_cons (pv 0) (pa_cons (pv 1) pa_nil))))) pa_nil)))))
 (pss_cons (ps_setLc (i := 14) (own := [("_law_other", 15)]) (g := gName 15) (by rfl) sc__law_rules.nd rfl rfl (sw_true rfl rfl rfl (by decide +kernel)) (pi_list (pv 5)) (blkOk_by (own := [("_law_other", 15)]) (N := ["_law_well_here", "_law_names_here", "_law_signs_here", "_law_plain", "_law_most", "_law_rules_here", "_law_known", "_law_k", "_law_name", "_law_row", "_law_j", "_law_one_here", "_law_letter", "_law_rule", "_law_mine", "_law_other"]) (sc := defScope s__law_rules) (by decide +kernel)) (fun _ _ _ _ _ => (pg_name (i := 15) sc__law_rules.nd rfl (Or.inl rfl))) (fun _ _ _ _ _ => pts_one (pt_cmpR op_eq (pe_ix (r := rIxT K) ix_tup (pv 15) pe_int (fun _ _ => rfl)) (pv 8) (nomark _))) (fun _ _ _ _ _ => (pv 15)))
 (pss_one (ps_if (PW.pt (pw_and (pt_cmpR op_lt (pe_callB (id := "len") (r := Evl.rLenS K) call_len_seq (by rfl) T.len (by decide +kernel) (pa_cons (pv 14) pa_nil)) pe_int (nomark _)) (pw_and (pt_cmpR (r := rNotInP K) (op_notInP hu64) (pv 13) (pv 14) (by rfl)) (pw_and1 (pt_not (PW.pt (pw_and (pt_val (pv 3)) (pw_and1 (pt_cmpR (r := rInP K) (op_inP hu64) (pv 12) (pe_lc (own := [("_law_other", 15)]) (g := gName 15) (by rfl) sc__law_rules.nd (pi_list (pv 14)) (blkOk_by (own := [("_law_other", 15)]) (N := ["_law_well_here", "_law_names_here", "_law_signs_here", "_law_plain", "_law_most", "_law_rules_here", "_law_known", "_law_k", "_law_name", "_law_row", "_law_j", "_law_one_here", "_law_letter", "_law_rule", "_law_mine", "_law_other"]) (sc := defScope s__law_rules) (by decide +kernel)) (fun _ _ _ _ _ => (pg_name (i := 15) sc__law_rules.nd rfl (Or.inl rfl))) (fun _ _ _ _ _ => pts_nil) (fun _ _ _ _ _ => (pe_ix (r := rIxT K) ix_tup (pv 15) pe_int (fun _ _ => rfl)))) (by rfl)))))))))) (pss_one (ps_expr (pe_bm PySem.F.plainAttrs_list PySem.F.slot_list_append PySem.F.type_list_append mt_append (pv 5) (pa_cons (pv 13) pa_nil)))) pss_nil))))))
 (pss_one (ps_ret (pe_tup (pa_cons (pv 5) (pa_cons (pv 6) pa_nil))))))))), ?_⟩
    refine ⟨Nat.zero_le _, fun ru hru => ?_⟩
    intro kn hkn
    have hkn0 : H kn = none := (same_new hru).free hkn
    have nkr : kn ≠ ru := (ne_of_none upd_same hkn).symm
    have b0 : BuiltB H (upd (upd H ru (.lst [])) kn (.dK [])) s nl sg ru names signs [] := by
      have e := (same_new hru (o := .lst [])).trans (same_new hkn (o := .dK []))
      exact ⟨but_of_same e, e _ _ hnl, e _ _ hsg, [], same_new hkn _ _ upd_same, .nil⟩
    have w0 : WellAt (upd (upd H ru (.lst [])) kn (.dK [])) s n := hw.same ((same_new hru (o := .lst [])).trans (same_new hkn (o := .dK [])))
    have k0 : (upd (upd H ru (.lst [])) kn (.dK [])) kn = some (.dK []) := upd_same
    generalize (upd (upd H ru (.lst [])) kn (.dK [])) = H0 at b0 w0 k0 ⊢
    refine ⟨_, rfl, nl, _, rfl, SqL.of b0.nm, for_it (walk_enum (K := K) (a := nl) (xs := names.map V.str)) (fun i σ' H' => ∃ (x7 x8 x9 x10 x11 : Option V) (kvs : List (Key × V)) (rs : List Rule), σ' = [some (.ref s), some (.ref nl), some (.ref sg), some (.bl plain), some (.int most), some (.ref ru), some (.ref kn), x7, x8, x9, x10, x11, none, none, none, none] ∧ BuiltB H H' s nl sg ru names signs rs ∧ WellAt H' s (n + 10 * i) ∧ H' kn = some (.dK kvs) ∧ kvs.length ≤ i ∧ (∀ x ∈ names.take i, ∃ z : Int, valV kvs (Sum.inr x : Key) = some (.int z)) ∧ rs.map (·.1) = names.take i ∧ (∀ r ∈ rs, r.1 ∈ names ∧ r.2.1 ∈ signs ∧ r.2.2.length ≤ 3 ∧ ∀ x ∈ r.2.2, x ∈ names) ∧ EndsR (names.take i) rs ∧ PlainR rs) ?_ ?_ ?_ ?_⟩
    · exact ⟨_, _, _, _, _, [], [], rfl, b0, w0, k0, Nat.le_refl _, fun x h => by simp at h, by simp, fun r h => by simp at h, fun x h => by simp at h, fun n => List.nodup_nil⟩
    · rintro i σ' H' _ ⟨_, _, _, _, _, _, _, rfl, b, _⟩
      exact SqL.of b.nm
    · clear b0 w0 k0
      rintro i x σ' H6 H7 hi ⟨x7, x8, x9, x10, x11, kvs, rs, rfl, b6, w6, hk6, hkl, hval, hmap, hok, hends, hpl⟩ ⟨T0, y1, y2, rfl, hT, rfl, e1, e2⟩
      have e1 := Option.some.inj e1
      subst e1
      obtain ⟨nk, hnk, rfl⟩ := map_at e2
      have hil : i < names.length := (List.getElem?_eq_some_iff.mp hnk).1
      have hnkm := List.mem_of_getElem? hnk
      have smT := same_new hT (o := .tup [.int i, .str nk])
      refine ⟨T0, _, rfl, SqT.of upd_same, rfl, _, _, rfl, _, _, rfl, rfl, ?_⟩
      have b7 := b6.same smT
      have w7 := w6.same smT
      have hk7 := smT _ _ hk6
      generalize (upd H6 T0 (.tup [.int i, .str nk])) = H7 at b7 w7 hk7 ⊢
      clear b6 w6 hk6 smT hT
      -- row = []
      refine ⟨Nat.zero_le _, fun ra hra => ?_⟩
      have smr := same_new hra (o := .lst [])
      have hra0 : H ra = none := b7.bt.freeW w7 hra
      have hrs : ra ≠ s := by
        obtain ⟨o, ho⟩ := w7.some
        exact (ne_of_none ho hra).symm
      have hra8 : (upd H7 ra (.lst [])) ra = some (.lst (([] : List Str).map V.str)) := upd_same
      have w8 := w7.same smr
      have bt78 : But s H7 (upd H7 ra (.lst [])) := but_of_same smr
      generalize (upd H7 ra (.lst [])) = H8 at smr hra8 w8 bt78 ⊢
      -- how many
      refine ⟨_, rfl, sl2 (by show 5 ≤ 1000000; decide), fun zl hzl => ?_⟩
      have smz := same_new hzl (o := .lst [.int 0, .int 1, .int 1, .int 2, .int 3])
      have nzs : zl ≠ s := by
        obtain ⟨o, ho⟩ := w8.some
        exact (ne_of_none ho hzl).symm
      refine ⟨s, zl, [.int 0, .int 1, .int 1, .int 2, .int 3], n + 10 * i, rfl, w8.same smz, by omega, upd_same, nzs, by decide, by decide, fun v H9 hv bt9 w9 => ?_⟩
      have hra9 : H9 ra = some (.lst (([] : List Str).map V.str)) := bt9 _ _ hrs (smz _ _ hra8)
      have bt79 : But s H7 H9 := (bt78.same smz).trans bt9
      clear bt9 smz hzl nzs hra8 bt78 smr w8
      obtain ⟨z, rfl, z0, z3⟩ : ∃ z : Int, v = .int z ∧ 0 ≤ z ∧ z ≤ 3 := by
        simp only [List.mem_cons, List.not_mem_nil, or_false] at hv
        rcases hv with rfl | rfl | rfl | rfl | rfl
        · exact ⟨0, rfl, by decide, by decide⟩
        · exact ⟨1, rfl, by decide, by decide⟩
        · exact ⟨1, rfl, by decide, by decide⟩
        · exact ⟨2, rfl, by decide, by decide⟩
        · exact ⟨3, rfl, by decide, by decide⟩
      refine ⟨_, rfl, _, _, rfl, rfl, .inr ⟨_, rfl, _, _, rfl, rfl, ?_⟩⟩
      obtain ⟨cnt, hcnt, hc3, hc0⟩ : ∃ c : Nat, z * (if decide (0 < (i : Int)) = true then 1 else 0) = (c : Int) ∧ c ≤ 3 ∧ (0 < c → 0 < i) := by
        by_cases hi0 : 0 < i
        · refine ⟨z.toNat, ?_, by omega, fun _ => hi0⟩
          rw [decide_eq_true (show 0 < (i : Int) by omega), if_pos rfl]
          omega
        · refine ⟨0, ?_, by omega, fun h => by omega⟩
          rw [decide_eq_false (show ¬ 0 < (i : Int) by omega), if_neg (by decide)]
          omega
      refine ⟨.inl ⟨by omega, by omega⟩, (cnt : Int), congrArg (fun q => [V.int q]) hcnt, by omega, by omega, for_range (n := cnt) (fun j σ' H' => ∃ (x10 x11 : Option V) (row : List Str), σ' = [some (.ref s), some (.ref nl), some (.ref sg), some (.bl plain), some (.int most), some (.ref ru), some (.ref kn), some (.int (i : Int)), some (.str nk), some (.ref ra), x10, x11, none, none, none, none] ∧ But s H7 H' ∧ WellAt H' s (n + 10 * i + 1 + j) ∧ H' ra = some (.lst (row.map V.str)) ∧ row.length ≤ j ∧ ∀ x ∈ row, x ∈ names.take i) ?_ ?_ ?_⟩
      · exact ⟨_, _, [], rfl, bt79, w9, hra9, Nat.le_refl _, fun x h => by simp at h⟩
      · clear hra9 bt79 w9 H9 hcnt
        rintro j σ' H9 hj ⟨x10, x11, row, rfl, bt9, w9, hr9, hrl, hsub⟩
        have hi0 : 0 < i := hc0 (by omega)
        have b9 := b7.but w7 bt9
        refine ⟨_, rfl, _, rfl, _, rfl, _, rfl, nl, _, rfl, SqL.of b9.nm, fun p0 hp0 => ?_⟩
        have e10 := same_new hp0 (o := .lst (cutV (names.map V.str) none (some (i : Int))))
        have hp10 : (upd H9 p0 (.lst (cutV (names.map V.str) none (some (i : Int))))) p0 = some (.lst ((names.take i).map V.str)) := by
          rw [upd_same, cut_lt, List.map_take]
        have nps : p0 ≠ s := by
          obtain ⟨o, ho⟩ := w9.some
          exact (ne_of_none ho hp0).symm
        have w10 := w9.same e10
        have htl : ((names.take i).map V.str).length = i := by rw [List.length_map, List.length_take]; omega
        refine ⟨s, p0, (names.take i).map V.str, _, rfl, w10, by omega, hp10, nps, by omega, by omega, fun v H11 hv bt11 w11 => ?_⟩
        obtain ⟨o, ho, rfl⟩ := List.mem_map.mp hv
        have hr10 := e10 _ _ hr9
        have hr11 := bt11 _ _ (w10.ne_strs hr10) hr10
        have bt711 : But s H7 H11 := (bt9.same e10).trans bt11
        have hk11 := bt711 _ _ (w7.ne_dk hk7) hk7
        clear hr10 bt11 hp10 e10 hp0 nps w10 hv b9 bt9 w9 hr9
        have hval' : ∀ x ∈ row, valV kvs (Sum.inr x : Key) = some (.int (intOf kvs x)) := fun x hx => intOf_eq (hval x (hsub x hx))
        have hvo : valV kvs (Sum.inr o : Key) = some (.int (intOf kvs o)) := intOf_eq (hval o ho)
        refine ⟨_, rfl, ra, rfl, ⟨_, SqL.of hr11⟩, fun D hD => lc_scal (K := K) (ys := (row.map (intOf kvs)).map V.int) (SqL.of hr11) hD (by simp) (by rw [List.length_map]; omega) (fun _ => rfl) (fun i x y H' Q' g1 g2 sm k => ?_) (fun H12 sm12 hl12 => ?_)⟩
        · obtain ⟨x1, hx1, rfl⟩ := map_at g1
          have hx2 : (row.map (intOf kvs))[i]? = some (intOf kvs x1) := by rw [List.getElem?_map, hx1]; rfl
          have ey := map_get hx2 g2
          subst ey
          exact ⟨_, rfl, _, rfl, kn, _, rfl, .inl ⟨kvs, Sum.inr x1, .inl (sm _ _ hk11), rfl, (hval' x1 (List.mem_of_getElem? hx1)).symm⟩, k _ fun _ _ h => h⟩
        have hk12 := sm12 _ _ hk11
        have hr12 := sm12 _ _ hr11
        refine ⟨D, _, rfl, SqL.of hl12, _, rfl, _, rfl, kn, _, rfl, .inl ⟨kvs, Sum.inr o, .inl hk12, rfl, hvo.symm⟩, _, _, rfl, rfl, _, rfl, _, _, rfl, rfl, _, rfl, iteB (fun _ => ?_) (fun _ => ?_)⟩
        · refine ⟨_, rfl, .inl ⟨rfl, _, SqL.of hr12⟩, _, rfl, ra, _, _, rfl, rfl, hr12, by rw [List.length_map]; exact sl1 (by omega), ?_⟩
          have hra7 : H7 ra = none := hra
          refine ⟨_, _, row ++ [o], rfl, (bt711.same sm12).cell hra7 _, ((w11.same sm12).cell w7 hra7).mono (by omega), by rw [upd_same, List.map_append]; rfl, by rw [List.length_append]; exact Nat.succ_le_succ hrl, fun x hx => ?_⟩
          rcases List.mem_append.mp hx with hx | hx
          · exact hsub x hx
          · rw [List.mem_singleton.mp hx]; exact ho
        · exact ⟨_, _, row, rfl, bt711.same sm12, (w11.same sm12).mono (by omega), hr12, by omega, hsub⟩
      clear hra9 bt79 w9 H9 hcnt
      rintro σ' H9 ⟨x10, x11, row, rfl, bt9, w9, hr9, hrl, hsub⟩
      have hrl3 : row.length ≤ 3 := by omega
      -- known[name] = 1 + sum
      have hk9 := bt9 _ _ (w7.ne_dk hk7) hk7
      have b9 := b7.but w7 bt9
      have hval' : ∀ x ∈ row, valV kvs (Sum.inr x : Key) = some (.int (intOf kvs x)) := fun x hx => intOf_eq (hval x (hsub x hx))
      refine ⟨_, rfl, ra, rfl, ⟨_, SqL.of hr9⟩, fun D hD => lc_scal (K := K) (ys := (row.map (intOf kvs)).map V.int) (SqL.of hr9) hD (by simp) (by rw [List.length_map]; omega) (fun _ => rfl) (fun i x y H' Q' g1 g2 sm k => ?_) (fun H12 sm12 hl12 => ?_)⟩
      · obtain ⟨x1, hx1, rfl⟩ := map_at g1
        have hx2 : (row.map (intOf kvs))[i]? = some (intOf kvs x1) := by rw [List.getElem?_map, hx1]; rfl
        have ey := map_get hx2 g2
        subst ey
        exact ⟨_, rfl, _, rfl, kn, _, rfl, .inl ⟨kvs, Sum.inr x1, .inl (sm _ _ hk9), rfl, (hval' x1 (List.mem_of_getElem? hx1)).symm⟩, k _ fun _ _ h => h⟩
      have b12 := b9.same sm12
      have hk12 := sm12 _ _ hk9
      have hr12 := sm12 _ _ hr9
      have w12 := w9.same sm12
      refine ⟨D, _, rfl, SqL.of hl12, _, _, rfl, rfl, _, rfl, _, rfl, kn, _, rfl, DPut.k (k := Sum.inr nk) hk12 (sl1 (by omega)), ?_⟩
      generalize hkv : putK kvs (Sum.inr nk : Key) (V.int (1 + (row.map (intOf kvs)).sum)) = kvs2
      have b13 := b12.dict (kvs2 := kvs2) hk12 hkn0
      have hkn12 := hk12
      have w13 : WellAt (upd H12 kn (.dK kvs2)) s (n + 10 * i + 1 + cnt) := w12.cell hw hkn0
      have nrk : ra ≠ kn := fun z => by rw [z, hk12] at hr12; cases hr12
      have hr13 : (upd H12 kn (.dK kvs2)) ra = some (.lst (row.map V.str)) := by rw [upd_ne nrk]; exact hr12
      have hk13 : (upd H12 kn (.dK kvs2)) kn = some (.dK kvs2) := upd_same
      generalize (upd H12 kn (.dK kvs2)) = H13 at b13 w13 hr13 hk13 ⊢
      -- rules.append((name, one(well, signs), row))
      obtain ⟨ts, hts, htp⟩ := b13.tr
      refine ⟨_, rfl, .inl ⟨rfl, _, SqL.of hts⟩, _, rfl, _, rfl, _, rfl, s, sg, signs.map V.str, _, rfl, w13, by omega, b13.sn, w13.ne_strs b13.sn, by rw [List.length_map]; exact List.length_pos_iff.mpr sne, by rw [List.length_map]; omega, fun v H14 hv bt14 w14 => ?_⟩
      obtain ⟨c1, hc1, rfl⟩ := List.mem_map.mp hv
      have b14 := b13.but w13 bt14
      have hts14 := bt14 _ _ (w13.ne_refs hts) hts
      have hr14 := bt14 _ _ (w13.ne_strs hr13) hr13
      have hk14 := bt14 _ _ (w13.ne_dk hk13) hk13
      refine ⟨_, rfl, sl2 (by show 3 ≤ 1000000; decide), fun t ht => ?_⟩
      have e15 := same_new ht (o := .tup [.str nk, .str c1, .ref ra])
      have b15 := b14.same e15
      have w15 := w14.same e15
      have hts15 := e15 _ _ hts14
      have hl : rs.length = i := by
        have := congrArg List.length hmap
        rw [List.length_map, List.length_take] at this
        omega
      have hl2 : ts.length = i := by rw [paired_len htp, hl]
      refine ⟨_, _, _, rfl, rfl, hts15, by rw [List.length_map]; exact sl1 (by omega), ?_⟩
      have nraru : ra ≠ ru := fun z => by
        obtain ⟨ts', g1, g2⟩ := b7.tr
        rw [z, g1] at hra
        cases hra
      have htt : (upd H14 t (.tup [.str nk, .str c1, .ref ra])) t = some (.tup [.str nk, .str c1, .ref ra]) := upd_same
      have ht0 : H t = none := b14.bt.freeW w14 ht
      have b16 := b15.put hru nne sne hts15 (r := (nk, c1, row)) nraru ⟨ht0, ra, hra0, htt, e15 _ _ hr14⟩ htt
      have hnew : nk ∉ names.take i := not_mem_take_nd nnd hnk
      have hro : rulesOf rs nk = [] := by
        rw [List.eq_nil_iff_forall_not_mem]
        intro p hp
        have h1 := mem_rulesOf.mp hp
        apply hnew
        rw [← hmap]
        exact List.mem_map.mpr ⟨_, h1, rfl⟩
      refine ⟨_, _, _, _, _, kvs2, rs ++ [(nk, c1, row)], rfl, b16, (w15.cell hw hru).mono (by omega), by rw [upd_ne nkr]; exact e15 _ _ hk14, ?_, ?_, ?_, ?_, ?_, ?_⟩
      · have := putK_le kvs (Sum.inr nk : Key) (V.int (1 + (row.map (intOf kvs)).sum))
        rw [hkv] at this
        omega
      · intro x hx
        rw [take_snoc hnk] at hx
        rw [← hkv]
        by_cases e : x = nk
        · exact ⟨_, by rw [valV_put, if_pos (by rw [e])]⟩
        · rcases List.mem_append.mp hx with hx | hx
          · obtain ⟨z, hz⟩ := hval x hx
            exact ⟨z, by rw [valV_put, if_neg (fun q => e (Sum.inr.inj q))]; exact hz⟩
          · exact absurd (List.mem_singleton.mp hx) e
      · rw [List.map_append, hmap, take_snoc hnk]; rfl
      · intro r hr1
        rcases List.mem_append.mp hr1 with hr1 | hr1
        · exact hok r hr1
        · rw [List.mem_singleton.mp hr1]
          exact ⟨hnkm, hc1, hrl3, fun x hx => List.mem_of_mem_take (hsub x hx)⟩
      · rw [take_snoc hnk]
        exact hends.put (r := (nk, c1, row)) hsub
      · refine hpl.put ?_
        rw [show (nk, c1, row).1 = nk from rfl, hro]
        simp
    -- more rules
    clear b0 w0 k0
    rintro σ' H7 ⟨x7, x8, x9, x10, x11, kvs, rs, rfl, b, w7, hk7, hkl, hval, hmap, hok, hends, hpl⟩
    rw [List.length_map] at w7 hkl hval hmap hends
    rw [List.take_length] at hval hmap hends
    have hrn : rs.Nodup := (List.pairwise_map.mp (hmap ▸ nnd)).imp fun h e => h (by rw [e])
    have hl0 : rs.length ≤ 6 := by
      have := congrArg List.length hmap
      rw [List.length_map] at this
      omega
    have hfew : ∀ n, (rulesOf rs n).length ≤ 4 := (GoodR.of (k := 0) hrn (okL sok hok) (FewR.first nnd hmap)).few
    clear hval hkl hmap
    refine ⟨_, rfl, _, rfl, _, _, rfl, .inl (SqL.of b.nm), _, _, rfl, rfl, .inl ⟨by decide, by decide⟩, _, _, rfl, rfl, s, _, _, rfl, w7, by omega, by rw [List.length_map]; omega, by rw [List.length_map]; omega, fun m H8 m0 m1 bt8 w8 => ?_⟩
    have b8 := b.but w7 bt8
    have hk8 := bt8 _ _ (w7.ne_dk hk7) hk7
    rw [List.length_map] at m1
    refine ⟨_, rfl, by omega, by omega, for_range (fun k σ' H' => ∃ (x7 x8 x9 x10 x11 x12 x13 x14 : Option V) (rs : List Rule) (kvs : List (Key × V)), σ' = [some (.ref s), some (.ref nl), some (.ref sg), some (.bl plain), some (.int most), some (.ref ru), some (.ref kn), x7, x8, x9, x10, x11, x12, x13, x14, none] ∧ BuiltB H H' s nl sg ru names signs rs ∧ WellAt H' s (n + 100 + 10 * k) ∧ H' kn = some (.dK kvs) ∧ rs.Nodup ∧ (∀ n, (rulesOf rs n).length ≤ 4) ∧ rs.length ≤ 6 + k ∧ (∀ r ∈ rs, r.1 ∈ names ∧ r.2.1 ∈ signs ∧ r.2.2.length ≤ 3 ∧ ∀ x ∈ r.2.2, x ∈ names) ∧ EndsR names rs ∧ (plain = true → PlainR rs)) ?_ ?_ ?_⟩
    · exact ⟨_, _, _, _, _, _, _, _, rs, kvs, rfl, b8, w8.mono (by omega), hk8, hrn, hfew, by omega, hok, hends, fun _ => hpl⟩
    · clear b w7 hk7 hok hends hpl hrn hl0 hfew bt8 w8 b8 hk8 rs kvs
      rintro k σ' H9 hk ⟨x7, x8, x9, x10, x11, x12, x13, x14, rs, kvs, rfl, b, w9, hk9, hrn, hfew, hl, hok, hends, hpl⟩
      have hk13 : k < 13 := by omega
      -- name, letter
      have nlen : 0 < (names.map V.str).length := by rw [List.length_map]; omega
      have slen0 : 0 < (signs.map V.str).length := by rw [List.length_map]; exact List.length_pos_iff.mpr sne
      refine ⟨_, rfl, _, rfl, s, nl, names.map V.str, _, rfl, w9, by omega, b.nm, w9.ne_strs b.nm, nlen, by rw [List.length_map]; omega, fun v H10 hv bt10 w10 => ?_⟩
      obtain ⟨nk, hnkm, rfl⟩ := List.mem_map.mp hv
      have b10 := b.but w9 bt10
      have hk10 := bt10 _ _ (w9.ne_dk hk9) hk9
      refine ⟨_, rfl, _, rfl, s, sg, signs.map V.str, _, rfl, w10, by omega, b10.sn, w10.ne_strs b10.sn, slen0, by rw [List.length_map]; omega, fun v H11 hv2 bt11 w11 => ?_⟩
      obtain ⟨c1, hc1, rfl⟩ := List.mem_map.mp hv2
      have b11 := b10.but w10 bt11
      have hk11 := bt11 _ _ (w10.ne_dk hk10) hk10
      refine ⟨sl2 (by show 2 ≤ 1000000; decide), fun T1 hT1 => ?_⟩
      have smT := same_new hT1 (o := .tup [.str nk, .str c1])
      refine ⟨T1, _, rfl, SqT.of upd_same, rfl, _, _, rfl, _, _, rfl, rfl, ?_⟩
      have b12 := b11.same smT
      have w12 := w11.same smT
      have hk12 := smT _ _ hk11
      generalize (upd H11 T1 (.tup [.str nk, .str c1])) = H12 at b12 w12 hk12 ⊢
      clear smT hT1 hv hv2 bt10 bt11 b11 w11 hk11 b10 w10 hk10 b w9 hk9
      -- rule
      refine ⟨_, rfl, _, rfl, _, rfl, sl2 (by show 4 ≤ 1000000; decide), fun zl hzl => ?_⟩
      have smz := same_new hzl (o := .lst [.int 0, .int 1, .int 2, .int 3])
      have nzs : zl ≠ s := by
        obtain ⟨o, ho⟩ := w12.some
        exact (ne_of_none ho hzl).symm
      refine ⟨s, zl, [.int 0, .int 1, .int 2, .int 3], _, rfl, w12.same smz, by omega, upd_same, nzs, by decide, by decide, fun v H13 hv bt13 w13 => ?_⟩
      obtain ⟨z, rfl, z0, z3⟩ : ∃ z : Nat, v = .int (z : Int) ∧ 0 ≤ z ∧ z ≤ 3 := by
        simp only [List.mem_cons, List.not_mem_nil, or_false] at hv
        rcases hv with rfl | rfl | rfl | rfl
        · exact ⟨0, rfl, by decide, by decide⟩
        · exact ⟨1, rfl, by decide, by decide⟩
        · exact ⟨2, rfl, by decide, by decide⟩
        · exact ⟨3, rfl, by decide, by decide⟩
      have b13 := (b12.same smz).but (w12.same smz) bt13
      have hk13' := bt13 _ _ ((w12.same smz).ne_dk (smz _ _ hk12)) (smz _ _ hk12)
      clear bt13 hv nzs smz hzl b12 w12 hk12
      refine ⟨(z : Int), rfl, by omega, by omega, fun ra hra => lc_range (fun j H' => ∃ row : List Str, But s H13 H' ∧ WellAt H' s (n + 100 + 10 * k + 3 + j) ∧ H' ra = some (.lst (row.map V.str)) ∧ row.length = j ∧ ∀ x ∈ row, x ∈ names) ?_ ?_ ?_⟩
      · exact ⟨[], but_of_same (same_new hra), (w13.same (same_new hra)).mono (by omega), upd_same, rfl, fun x h => by simp at h⟩
      · rintro j H14 hj ⟨row, bt14, w14, h14, hrl, hsub⟩
        have b14 := b13.but w13 bt14
        refine ⟨rfl, tyes (iteT ?_)⟩
        refine ⟨_, rfl, _, rfl, s, nl, names.map V.str, _, rfl, w14, by omega, b14.nm, w14.ne_strs b14.nm, nlen, by rw [List.length_map]; omega, fun v H15 hv bt15 w15 => ?_⟩
        obtain ⟨o, ho, rfl⟩ := List.mem_map.mp hv
        have h15 := bt15 _ _ (w14.ne_strs h14) h14
        refine ⟨_, h15, by rw [List.length_map]; exact sl1 (by omega), row ++ [o], (bt14.trans bt15).cell hra _, (w15.cell w13 hra).mono (by omega), by rw [upd_same, List.map_append]; rfl, by simp [hrl], fun x hx => ?_⟩
        rcases List.mem_append.mp hx with hx | hx
        · exact hsub x hx
        · rw [List.mem_singleton.mp hx]; exact ho
      rintro H14 ⟨row, bt14, w14, h14, hrl, hsub⟩
      have b14 := b13.but w13 bt14
      have hk14 := bt14 _ _ (w13.ne_dk hk13') hk13'
      have hra0 : H ra = none := b13.bt.freeW w13 hra
      have nraru : ra ≠ ru := fun z => by
        obtain ⟨ts', g1, g2⟩ := b13.tr
        rw [z, g1] at hra
        cases hra
      refine ⟨sl2 (by show 3 ≤ 1000000; decide), fun t ht => ?_⟩
      have e15 := same_new ht (o := .tup [.str nk, .str c1, .ref ra])
      have b15 := b14.same e15
      have w15 := w14.same e15
      have hk15 := e15 _ _ hk14
      have h15 := e15 _ _ h14
      have htt : (upd H14 t (.tup [.str nk, .str c1, .ref ra])) t = some (.tup [.str nk, .str c1, .ref ra]) := upd_same
      have ht0 : H t = none := b14.bt.freeW w14 ht
      generalize (upd H14 t (.tup [.str nk, .str c1, .ref ra])) = H15 at b15 w15 hk15 h15 htt ⊢
      clear e15 ht b14 w14 hk14 h14 bt14 b13 w13 hk13'
      have hrow3 : row.length ≤ 3 := by
        have : row.length = z := hrl
        omega
      -- mine
      obtain ⟨ts, hts, htp⟩ := b15.tr
      have htl : ts.length = rs.length := paired_len htp
      refine ⟨_, rfl, ru, rfl, ⟨_, SqL.of hts⟩, fun D hD => lc_list (K := K) (a := ru) (xs := ts.map V.ref) (fun j H' => Same H15 H' ∧ ∃ us : List Addr, H' D = some (.lst (us.map V.ref)) ∧ Paired (TrioAt H15) us ((rs.take j).filter fun r => decide (r.1 = nk))) ?_ ?_ ?_ ?_⟩
      · exact ⟨same_new hD, [], upd_same, .nil⟩
      · rintro j H' _ ⟨sm, _⟩
        exact SqL.of (sm _ _ hts)
      · rintro j x H' hj ⟨sm, us, h1, h2⟩
        obtain ⟨t2, ht2, rfl⟩ := map_at hj
        obtain ⟨r, hr1, _, w2, _, g1, g2⟩ := paired_get htp ht2
        have hjl : j < rs.length := (List.getElem?_eq_some_iff.mp hr1).1
        have hul : us.length ≤ 100 := by
          rw [paired_len h2]
          have := List.length_filter_le (fun r : Rule => decide (r.1 = nk)) (rs.take j)
          rw [List.length_take] at this
          omega
        refine ⟨rfl, _, rfl, _, _, _, _, rfl, rfl, SqT.of (sm _ _ g1), atI_nat (j := 0) rfl, _, rfl, rfl, _, rfl, ?_⟩
        rw [take_snoc hr1, filter_snoc]
        refine iteB (fun hc => ?_) (fun hc => ?_)
        · have e0 : r.1 = nk := V.str.inj (of_decide_eq_true hc)
          rw [if_pos (decide_eq_true e0)]
          refine ⟨_, rfl, _, h1, by rw [List.length_map]; exact sl1 (by omega), same_mut sm hD, us ++ [t2], by rw [upd_same, List.map_append]; rfl, paired_app (F := TrioAt H15) ⟨w2, g1, g2⟩ h2⟩
        · have e0 : ¬ r.1 = nk := fun z => of_decide_eq_false hc (by rw [z])
          rw [if_neg (by rw [decide_eq_false e0]; exact Bool.false_ne_true)]
          exact ⟨sm, us, h1, h2⟩
      rintro H16 ⟨sm16, us, hus, hup⟩
      rw [List.length_map, htl, List.take_length] at hup
      have hmine : (rs.filter fun r => decide (r.1 = nk)).length = (rulesOf rs nk).length := by unfold rulesOf; rw [List.length_map]
      have hulen : us.length = (rulesOf rs nk).length := by rw [paired_len hup, hmine]
      have b16 := b15.same sm16
      have w16 := w15.same sm16
      have hk16 := sm16 _ _ hk15
      have h16 := sm16 _ _ h15
      have htt16 := sm16 _ _ htt
      have hts16 := sm16 _ _ hts
      have hup16 : Paired (TrioAt H16) us (rs.filter fun r => decide (r.1 = nk)) := Paired.mapP hup fun _ _ h => h.same sm16
      have hlet : (rulesOf rs nk).map (·.1) = (rs.filter fun r => decide (r.1 = nk)).map (·.2.1) := by unfold rulesOf; rw [List.map_map]; rfl
      refine ⟨_, rfl, _, _, rfl, .inl (SqL.of hus), _, _, rfl, rfl, _, rfl, iteB (fun h1 => ?_) (fun _ => ?_)⟩
      · have hlt : (rulesOf rs nk).length < 4 := by
          have := of_decide_eq_true h1
          rw [List.length_map, hulen] at this
          omega
        refine ⟨_, rfl, _, rfl, eTrio (nk, c1, row), (rs.filter fun r => decide (r.1 = nk)).map eTrio, dp_trio ⟨ra, htt16, h16⟩, .inl (dp_trios ⟨us, hus, hup16⟩), Nat.le_trans (dep_Trio _) (by decide), _, rfl, ?_⟩
        rw [any_enc enc_Trio]
        refine iteB (fun h2 => ?_) (fun _ => ?_)
        · have hnr : (nk, c1, row) ∉ rs := fun z => by
            have h3 : (nk, c1, row) ∉ rs.filter fun r => decide (r.1 = nk) := by simpa using h2
            exact h3 (List.mem_filter.mpr ⟨z, decide_eq_true rfl⟩)
          -- the rule is put behind
          have put : ∀ H' : Hp, Same H16 H' → (plain = true → c1 ∉ (rulesOf rs nk).map (·.1)) →
              BuiltB H (upd H' ru (.lst (ts.map V.ref ++ [.ref t]))) s nl sg ru names signs (rs ++ [(nk, c1, row)]) ∧ WellAt (upd H' ru (.lst (ts.map V.ref ++ [.ref t]))) s (n + 100 + 10 * (k + 1)) ∧ (upd H' ru (.lst (ts.map V.ref ++ [.ref t]))) kn = some (.dK kvs) ∧ (rs ++ [(nk, c1, row)]).Nodup ∧ (∀ n, (rulesOf (rs ++ [(nk, c1, row)]) n).length ≤ 4) ∧ (rs ++ [(nk, c1, row)]).length ≤ 6 + (k + 1) ∧ (∀ r ∈ rs ++ [(nk, c1, row)], r.1 ∈ names ∧ r.2.1 ∈ signs ∧ r.2.2.length ≤ 3 ∧ ∀ x ∈ r.2.2, x ∈ names) ∧ EndsR names (rs ++ [(nk, c1, row)]) ∧ (plain = true → PlainR (rs ++ [(nk, c1, row)])) := fun H' sm hp => by
            refine ⟨(b16.same sm).put hru nne sne (sm _ _ hts16) (r := (nk, c1, row)) nraru ⟨ht0, ra, hra0, sm _ _ htt16, sm _ _ h16⟩ (sm _ _ htt16), ((w16.same sm).cell hw hru).mono (by omega), by rw [upd_ne nkr]; exact sm _ _ hk16, ?_, fun x => ?_, by rw [List.length_append]; exact Nat.succ_le_succ hl, fun r hr1 => ?_, hends.more _, fun hpp => (hpl hpp).put (hp hpp)⟩
            · rw [List.nodup_append]
              exact ⟨hrn, by simp, fun x hx y hy e => hnr (by rw [← List.mem_singleton.mp hy, ← e]; exact hx)⟩
            · rw [rulesOf_snoc]
              by_cases c : nk = x
              · rw [if_pos c, List.length_append, ← c]
                exact Nat.succ_le_of_lt hlt
              · rw [if_neg c]
                exact hfew x
            · rcases List.mem_append.mp hr1 with hr1 | hr1
              · exact hok r hr1
              · rw [List.mem_singleton.mp hr1]
                exact ⟨hnkm, hc1, hrow3, hsub⟩
          have hll : (ts.map V.ref).length < sizeLine := by rw [List.length_map]; exact sl1 (by omega)
          refine ⟨_, rfl, _, rfl, ?_⟩
          cases hpp : plain with
          | false =>
            rw [hpp] at put
            refine iteF (iteT ?_)
            obtain ⟨c1', c2', c3', c4', c5', c6', c7', c8', c9'⟩ := put H16 (Same.refl _) (fun z => by cases z)
            exact ⟨_, rfl, .inl ⟨rfl, _, SqL.of hts16⟩, _, rfl, ru, _, _, rfl, rfl, hts16, hll, _, _, _, _, _, _, _, _, _, kvs, rfl, c1', c2', c3', c4', c5', c6', c7', c8', c9'⟩
          | true =>
            rw [hpp] at put hpl
            refine iteT ?_
            refine ⟨_, rfl, _, rfl, D, rfl, ⟨_, SqL.of hus⟩, fun D2 hD2 => lc_scal (K := K) (ys := ((rs.filter fun r => decide (r.1 = nk)).map (·.2.1)).map V.str) (SqL.of hus) hD2 (by rw [List.length_map, List.length_map, List.length_map, paired_len hup]) (by rw [List.length_map]; omega) (fun _ => rfl) (fun i x y H' Q' g1 g2 sm k => ?_) (fun H17 sm17 hl17 => ?_)⟩
            · obtain ⟨t2, ht2, rfl⟩ := map_at g1
              obtain ⟨r, hr1, w2, g3, g4⟩ := paired_get hup16 ht2
              have hx2 : ((rs.filter fun r => decide (r.1 = nk)).map (·.2.1))[i]? = some r.2.1 := by rw [List.getElem?_map, hr1]; rfl
              have ey := map_get hx2 g2
              subst ey
              exact ⟨_, rfl, _, _, _, _, rfl, rfl, SqT.of (sm _ _ g3), atI_nat (j := 1) rfl, k _ fun _ _ h => h⟩
            refine ⟨PyData.str c1, ((rs.filter fun r => decide (r.1 = nk)).map (·.2.1)).map PyData.str, .str c1, .inl (.lst (SqL.of hl17) (dpAll_strs _)), Nat.zero_le _, _, rfl, ?_⟩
            rw [any_enc enc_str, ← hlet]
            by_cases hin : c1 ∈ (rulesOf rs nk).map (·.1)
            · rw [decide_eq_true hin]
              refine iteF ?_
              exact ⟨_, _, _, _, _, _, _, _, rs, kvs, rfl, b16.same sm17, (w16.same sm17).mono (by omega), sm17 _ _ hk16, hrn, hfew, by omega, hok, hends, hpl⟩
            · rw [decide_eq_false hin]
              refine iteT ?_
              obtain ⟨c1', c2', c3', c4', c5', c6', c7', c8', c9'⟩ := put H17 sm17 (fun _ => hin)
              exact ⟨_, rfl, .inl ⟨rfl, _, SqL.of (sm17 _ _ hts16)⟩, _, rfl, ru, _, _, rfl, rfl, sm17 _ _ hts16, hll, _, _, _, _, _, _, _, _, _, kvs, rfl, c1', c2', c3', c4', c5', c6', c7', c8', c9'⟩
        · exact ⟨_, _, _, _, _, _, _, _, rs, kvs, rfl, b16, w16.mono (by omega), hk16, hrn, hfew, by omega, hok, hends, hpl⟩
      · exact ⟨_, _, _, _, _, _, _, _, rs, kvs, rfl, b16, w16.mono (by omega), hk16, hrn, hfew, by omega, hok, hends, hpl⟩
    · clear b w7 hk7 hok hends hpl hrn hl0 hfew bt8 w8 b8 hk8 rs kvs
      rintro σ' H9 ⟨x7, x8, x9, x10, x11, x12, x13, x14, rs, kvs, rfl, b, w9, hk9, hrn, hfew, hl, hok, hends, hpl⟩
      refine ⟨_, rfl, _, rfl, sl2 (by show 2 ≤ 1000000; decide), fun p hp => ?_⟩
      have e := same_new hp (o := .tup [.ref ru, .ref kn])
      have b10 := b.same e
      exact q p ru kn _ rs b10.bt ((w9.same e).mono (by omega)) (b.bt.freeW w9 hp) hru hkn0 upd_same b10.tr ⟨kvs, e _ _ hk9⟩ ⟨hrn, okL sok hok, hfew⟩ hpl hends (by omega) fun r hr => (hok r hr).2.1
end
end SG
namespace SG
open PySem PySem.Spec PyProof.Rows L2
section
variable {P : Program} {w : World} {K : PySem.W.Frag} {mg : Str → Option Value} {base : Heap} {A : Ad}
def sp_twice_by (C : Addr) : Sp := fun vs H Q _ => ∃ (g : Addr) (names : List Str) (rs : List Rule), vs = [.ref g] ∧ GramAt C H g names rs ∧ names.length ≤ 1000 ∧ ShortR rs ∧ ∀ p H', H p = none → Same H H' → H' p = some (.lst ((twiceL names rs).map V.str)) → Q (.ref p) H'
theorem ok_twice_by (T : Txt K mg A) : FnOk P w K mg base CX0 2 A.a_twice_by A.d_twice_by ["grammar"] (sp_twice_by A.c_Grammar) := by
  have G_Grammar_names : FnOk P w K mg base CX0 1 A.a_Grammar_names A.d_Grammar_names ["self"] (sp_G_names A.c_Grammar) := ok_Grammar_names T
  have G_Grammar_rules_of : FnOk P w K mg base CX0 1 A.a_Grammar_rules_of A.d_Grammar_rules_of ["self", "name"] (sp_G_rules_of A.c_Grammar) := ok_Grammar_rules_of T
  refine T.F_twice_by.ok sc_twice_by (fun vs H Q E h => ?_) (fun cdv A0 outer s0 H vs Q E hr h => ?_)
  · obtain ⟨_, _, _, rfl, _⟩ := h
    rfl
  · obtain ⟨g, names, rs, rfl, G, hnl, hsh, q⟩ := h
    obtain ⟨dx, kn, st, od, hg⟩ := G.ins
    refine ⟨_, (pss_cons (ps_set (i := 1) sc_twice_by.nd rfl (Or.inl rfl) (pe_lst pa_nil))
 (pss_cons (ps_for PassesOwn.never rfl (pi_list (pe_meth0 (pv 0) T.cl_Grammar T.m_Grammar_names G_Grammar_names (hr.mono (by decide)) T.b_Grammar_names .nil pass0)) (pg_name (i := 2) sc_twice_by.nd rfl (Or.inl rfl))
 (pss_cons (ps_setLc (i := 3) (own := [("letter", 4), ("row", 5)]) (g := gTup K 2 (gCons (gName 4) (gCons (gName 5) gNil))) (by rfl) sc_twice_by.nd rfl rfl (sw_true rfl rfl rfl (by decide +kernel)) (pi_list (pe_meth (pv 0) T.cl_Grammar T.m_Grammar_rules_of G_Grammar_rules_of (hr.mono (by decide)) T.b_Grammar_rules_of .nil pass0 (pa_cons (pv 2) pa_nil))) (blkOk_by (own := [("letter", 4), ("row", 5)]) (N := ["grammar", "found", "name", "letters", "letter", "row"]) (sc := defScope s_twice_by) (by decide +kernel)) (fun _ _ _ _ _ => (pg_tup (by rfl) (pgs_cons (pg_name (i := 4) sc_twice_by.nd rfl (Or.inl rfl)) (pgs_cons (pg_name (i := 5) sc_twice_by.nd rfl (Or.inl rfl)) pgs_nil)))) (fun _ _ _ _ _ => pts_nil) (fun _ _ _ _ _ => (pv 4)))
 (pss_one (ps_if (pt_cmpR op_lt (pe_lenSetS (by rfl) T.len (by rfl) T.set_ (pv 3)) (pe_callB (id := "len") (r := Evl.rLenS K) call_len_seq (by rfl) T.len (by decide +kernel) (pa_cons (pv 3) pa_nil)) (nomark _)) (pss_one (ps_expr (pe_bm PySem.F.plainAttrs_list PySem.F.slot_list_append PySem.F.type_list_append mt_append (pv 1) (pa_cons (pv 2) pa_nil)))) pss_nil))))
 (pss_one (ps_ret (pv 1))))), ?_⟩
    refine ⟨Nat.zero_le _, fun D hD => ?_⟩
    have smD := same_new hD (o := .lst [])
    refine ⟨_, rfl, g, _, _, rfl, smD _ _ hg, gfs_no _ _ _ (by decide +kernel) (by decide +kernel) (by decide +kernel), g, names, rs, rfl, G.same smD, fun p1 H1 hp1 sm1 h1 => ?_⟩
    have hDD := sm1 _ _ (upd_same : (upd H D (.lst [])) D = some (.lst []))
    have np1 : p1 ≠ D := fun z => by rw [z, upd_same] at hp1; cases hp1
    refine ⟨p1, rfl, ⟨_, SqL.of h1⟩, for_list (K := K) (a := p1) (xs := names.map V.str) (fun i σ' H' => ∃ x2 x3 : Option V, σ' = [some (.ref g), some (.ref D), x2, x3, none, none] ∧ Same H H' ∧ H' p1 = some (.lst (names.map V.str)) ∧ H' D = some (.lst ((twiceL (names.take i) rs).map V.str))) ?_ ?_ ?_ ?_⟩
    · exact ⟨_, _, rfl, smD.trans sm1, h1, hDD⟩
    · rintro i σ' H' _ ⟨_, _, rfl, _, h, _⟩
      exact SqL.of h
    · rintro i x σ' H2 hi ⟨x2, x3, rfl, sm, hp, hd⟩
      obtain ⟨n, hn, rfl⟩ := map_at hi
      have hm := List.mem_of_getElem? hn
      have hsn := hsh.of n
      refine ⟨_, rfl, g, _, _, rfl, sm _ _ hg, gfs_no _ _ _ (by decide +kernel) (by decide +kernel) (by decide +kernel), _, rfl, g, names, rs, n, rfl, G.same sm, hm, by omega, fun p2 H3 nr => ?_⟩
      obtain ⟨hp2, sm3, us, hus, hpr⟩ := nr
      refine ⟨p2, rfl, ⟨_, SqL.of hus⟩, fun E2 hE2 => lc_list (K := K) (a := p2) (xs := us.map V.ref) (fun j H' => Same H3 H' ∧ H' E2 = some (.lst ((((rulesOf rs n).map (·.1)).take j).map V.str))) ?_ ?_ ?_ ?_⟩
      · exact ⟨same_new hE2, upd_same⟩
      · rintro j H' _ ⟨sm4, _⟩
        exact SqL.of (sm4 _ _ hus)
      · rintro j x H' hj ⟨sm4, h4⟩
        obtain ⟨u0, hui, rfl⟩ := map_at hj
        obtain ⟨r, hr1, _, w0, _, hw1, hw2⟩ := paired_get hpr hui
        have hr2 : ((rulesOf rs n).map (·.1))[j]? = some r.1 := by rw [List.getElem?_map, hr1]; rfl
        refine ⟨u0, _, rfl, SqT.of (sm4 _ _ hw1), rfl, _, _, rfl, _, _, rfl, rfl, rfl, tyes (iteT ?_)⟩
        refine ⟨_, rfl, _, h4, ?_, same_mut sm4 hE2, ?_⟩
        · rw [List.length_map, List.length_take]
          have := hsn.1
          have : (List.map (fun x => x.1) (rulesOf rs n)).length = (rulesOf rs n).length := List.length_map _
          exact sl1 (by omega)
        · rw [upd_same, take_snoc hr2, List.map_append]; rfl
      rintro H4 ⟨sm4, h4⟩
      have hul : us.length = ((rulesOf rs n).map (·.1)).length := by rw [paired_len hpr, List.length_map]
      rw [List.length_map, hul, List.take_length] at h4
      have sm24 := sm3.trans sm4
      have hd4 := sm24 _ _ hd
      have hp4 := sm24 _ _ hp
      have hll : ((rulesOf rs n).map (·.1)).length ≤ 100 := by rw [List.length_map]; exact hsn.1
      refine ⟨_, rfl, E2, _, rfl, SqL.of h4, by omega, _, rfl, _, _, rfl, .inl (SqL.of h4), _, _, rfl, rfl, _, rfl, ?_⟩
      have e : twiceL (names.take (i + 1)) rs = if decide ((once ((rulesOf rs n).map (·.1))).length < ((rulesOf rs n).map (·.1)).length) = true then twiceL (names.take i) rs ++ [n] else twiceL (names.take i) rs := by
        rw [take_snoc hn]
        exact filter_snoc _ _ _
      have hle : (twiceL (names.take i) rs).length ≤ 1000 := by
        have h1 : (twiceL (names.take i) rs).length ≤ (names.take i).length := List.length_filter_le _ _
        rw [List.length_take] at h1
        omega
      have hci : ∀ a b : Nat, decide ((a : Int) < ((b : Nat) : Int)) = decide (a < b) := fun a b => by
        by_cases c : a < b
        · rw [decide_eq_true c, decide_eq_true (by omega)]
        · rw [decide_eq_false c, decide_eq_false (by omega)]
      rw [List.length_map (as := (rulesOf rs n).map (·.1)) V.str, hci]
      refine iteB (fun hc => ?_) (fun hc => ?_)
      · rw [if_pos hc] at e
        refine ⟨_, rfl, .inl ⟨rfl, _, SqL.of hd4⟩, _, rfl, D, _, _, rfl, rfl, hd4, by rw [List.length_map]; exact sl1 (by omega), _, _, rfl, ?_, ?_, ?_⟩
        · exact same_mut (sm.trans sm24) (by exact hD)
        · rw [upd_ne np1]; exact hp4
        · rw [upd_same, e, List.map_append]; rfl
      · rw [if_neg (by rw [hc]; exact Bool.false_ne_true)] at e
        rw [← e] at hd4
        exact ⟨_, _, rfl, sm.trans sm24, hp4, hd4⟩
    · rintro σ' H2 ⟨_, _, rfl, sm, hp, hd⟩
      rw [List.length_map, List.take_length] at hd
      exact ⟨_, rfl, q D H2 hD sm hd⟩
def sp_look_tongue (C : Addr) : Sp := fun vs H Q _ => ∃ (g a : Addr) (names : List Str) (rs : List Rule) (as : List Addr) (rows : List (List Str)), vs = [.ref g, .ref a] ∧ GramAt C H g names rs ∧ names.Nodup ∧ names.length ≤ 1000 ∧ (∀ r ∈ rs, r.1 ∈ names ∧ ∀ x ∈ r.2.2, x ∈ names) ∧ ShortR rs ∧ EndsR names rs ∧ PlainR rs ∧ H a = some (.lst (as.map V.ref)) ∧ Paired (fun b row => H b = some (.lst (row.map V.str)) ∧ ∀ x ∈ row, x ∈ names) as rows ∧ ∀ H', Same H H' → Q .non H'
theorem ok_look_at_tongue (T : Txt K mg A) : FnOk P w K mg base CX0 4 A.a_look_at_tongue A.d_look_at_tongue ["grammar", "rows"] (sp_look_tongue A.c_Grammar) := by
  have G_look_at_names : FnOk P w K mg base CX0 2 A.a_look_at_names A.d_look_at_names ["grammar", "row"] (sp_look A.c_Grammar) := ok_look_at_names T
  have G_endless : FnOk P w K mg base CX0 3 A.a_endless A.d_endless ["grammar"] (sp_endless A.c_Grammar) := ok_endless T
  have G_twice_by : FnOk P w K mg base CX0 2 A.a_twice_by A.d_twice_by ["grammar"] (sp_twice_by A.c_Grammar) := ok_twice_by T
  refine T.F_look_at_tongue.ok sc_look_at_tongue (fun vs H Q E h => ?_) (fun cdv A0 outer s0 H vs Q E hr h => ?_)
  · obtain ⟨_, _, _, _, _, _, rfl, _⟩ := h
    rfl
  · obtain ⟨g, a, names, rs, as, rows, rfl, G, hnd, hnl, hin, hsh, he, hp, ha, hpr, q⟩ := h
    refine ⟨_, (pss_cons (ps_for PassesOwn.never rfl (pi_list (pv 1)) (pg_name (i := 2) sc_look_at_tongue.nd rfl (Or.inl rfl))
 (pss_one (ps_expr (pe_call G_look_at_names (hr.mono (by decide)) (by rfl) T.g_look_at_names T.F_look_at_names.kp T.b_look_at_names .nil pass0 (pa_cons (pv 0) (pa_cons (pv 2) pa_nil))))))
 (pss_cons (ps_for PassesOwn.never rfl (pi_list (pe_call G_endless (hr.mono (by decide)) (by rfl) T.g_endless T.F_endless.kp T.b_endless .nil pass0 (pa_cons (pv 0) pa_nil))) (pg_name (i := 3) sc_look_at_tongue.nd rfl (Or.inl rfl))
 (pss_one ps_never))
 (pss_one (ps_for PassesOwn.never rfl (pi_list (pe_call G_twice_by (hr.mono (by decide)) (by rfl) T.g_twice_by T.F_twice_by.kp T.b_twice_by .nil pass0 (pa_cons (pv 0) pa_nil))) (pg_name (i := 3) sc_look_at_tongue.nd rfl (Or.inl rfl))
 (pss_one ps_never))))), ?_⟩
    refine ⟨_, rfl, a, rfl, ⟨_, SqL.of ha⟩, for_list (K := K) (a := a) (xs := as.map V.ref) (fun i σ' H' => ∃ x2 : Option V, σ' = [some (.ref g), some (.ref a), x2, none] ∧ Same H H') ?_ ?_ ?_ ?_⟩
    · exact ⟨_, rfl, Same.refl _⟩
    · rintro i σ' H' _ ⟨_, rfl, sm⟩
      exact SqL.of (sm _ _ ha)
    · rintro i x σ' H' hi ⟨_, rfl, sm⟩
      obtain ⟨b, hb, rfl⟩ := map_at hi
      obtain ⟨row, _, h1, h2⟩ := paired_get hpr hb
      exact ⟨_, rfl, _, rfl, g, b, names, rs, row, rfl, G.same sm, sm _ _ h1, h2, _, rfl, sm⟩
    · rintro σ' H1 ⟨x2, rfl, sm1⟩
      refine ⟨_, rfl, g, names, rs, rfl, G.same sm1, hnd, hnl, hin, hsh, fun p H2 hp2 sm2 h2 => ?_⟩
      rw [endl_ends he] at h2
      refine ⟨p, rfl, ⟨_, SqL.of h2⟩, for_list (K := K) (a := p) (xs := []) (fun i σ' H' => σ' = [some (.ref g), some (.ref a), x2, none] ∧ H' = H2) ⟨rfl, rfl⟩ ?_ ?_ ?_⟩
      · rintro i σ' H' _ ⟨rfl, rfl⟩
        exact SqL.of h2
      · rintro i x σ' H' hi _
        simp at hi
      rintro σ' H' ⟨rfl, rfl⟩
      refine ⟨_, rfl, g, names, rs, rfl, G.same (sm1.trans sm2), hnl, hsh, fun p3 H3 hp3 sm3 h3 => ?_⟩
      rw [twiceL_plain hp] at h3
      refine ⟨p3, rfl, ⟨_, SqL.of h3⟩, for_list (K := K) (a := p3) (xs := []) (fun i σ' H' => σ' = [some (.ref g), some (.ref a), x2, none] ∧ H' = H3) ⟨rfl, rfl⟩ ?_ ?_ ?_⟩
      · rintro i σ' H' _ ⟨rfl, rfl⟩
        exact SqL.of h3
      · rintro i x σ' H' hi _
        simp at hi
      rintro σ' H' ⟨rfl, rfl⟩
      exact q _ (sm1.trans (sm2.trans sm3))
end
section
variable {P : Program} {w : World} {K : PySem.W.Frag} {mg : Str → Option Value} {base : Heap} {A : Ad}
def sp_one_step (C : Addr) : Sp := fun vs H Q _ => ∃ (g : Addr) (v : V) (o : Row?) (c : Str) (names : List Str) (rs : List Rule), vs = [.ref g, v, .str c] ∧ GramAt C H g names rs ∧ RowO H v o ∧ RowK names 100000 o ∧ ShortR rs ∧ ∀ v' H', Same H H' → RowF H H' v' (stepL rs o c) → Q v' H'
theorem ok_one_step (T : Txt K mg A) : FnOk P w K mg base CX0 2 A.a_one_step A.d_one_step ["grammar", "row", "letter"] (sp_one_step A.c_Grammar) := by
  have G_Grammar_rules_of : FnOk P w K mg base CX0 1 A.a_Grammar_rules_of A.d_Grammar_rules_of ["self", "name"] (sp_G_rules_of A.c_Grammar) := ok_Grammar_rules_of T
  refine T.F_one_step.ok sc_one_step (fun vs H Q E h => ?_) (fun cdv A0 outer s0 H vs Q E hr h => ?_)
  · obtain ⟨_, _, _, _, _, _, rfl, _⟩ := h
    rfl
  · obtain ⟨g, v, o, c, names, rs, rfl, G, hv, hk, hsh, q⟩ := h
    have hu64 := hu64_of hr
    obtain ⟨dx, kn, st, od, hg⟩ := G.ins
    refine ⟨_, (pss_cons (ps_if (PW.pt (pw_or (pt_cmpR op_isN (pv 1) pe_non (nomark _)) (pw_or1 (pt_cmpR (r := rEqP K) (op_eqP hu64) (pv 1) (pe_lst pa_nil) (nomark _))))) (pss_one (ps_ret pe_non)) pss_nil)
 (pss_cons (ps_for PassesOwn.never rfl (pi_list (pe_meth (pv 0) T.cl_Grammar T.m_Grammar_rules_of G_Grammar_rules_of (hr.mono (by decide)) T.b_Grammar_rules_of .nil pass0 (pa_cons (pe_ix (r := rIxL K) ix_list (pv 1) pe_int (fun _ _ => rfl)) pa_nil))) (pg_tup (by rfl) (pgs_cons (pg_name (i := 3) sc_one_step.nd rfl (Or.inl rfl)) (pgs_cons (pg_name (i := 4) sc_one_step.nd rfl (Or.inl rfl)) pgs_nil)))
 (pss_one (ps_if (pt_cmpR op_eq (pv 3) (pv 2) (nomark _)) (pss_one (ps_ret (pe_op op_cat (pv 4) (pe_slice (r := rSlL K) sl_list (pv 1) (po_some pe_int) po_none)))) pss_nil)))
 (pss_one (ps_ret pe_non)))), ?_⟩
    rcases hv with ⟨rfl, rfl⟩ | ⟨a, row, rfl, rfl, ha⟩
    · exact ⟨_, rfl, rfl, _, rfl, itePos (decide_eq_true rfl) (q _ _ (Same.refl _) (.inl ⟨rfl, rfl⟩))⟩
    obtain ⟨hin, hrl⟩ := hk row rfl
    refine ⟨_, rfl, rfl, _, rfl, iteNEG (decide_eq_false fun z => (by cases z)) ?_⟩
    refine ⟨_, rfl, Nat.zero_le _, fun e he => ?_⟩
    have sm1 := same_new he (o := .lst [])
    have ha1 := sm1 _ _ ha
    refine ⟨eSs row, eSs [], dp_Ss ha1, .lst (SqL.of upd_same) .nil, Nat.le_trans (dep_Ss _) (by decide), _, rfl, ?_⟩
    rw [enc_Ss]
    refine iteB (fun hc => ?_) (fun hc => ?_)
    · have e0 : row = [] := by simpa using hc
      subst e0
      exact q _ _ sm1 (.inl ⟨rfl, rfl⟩)
    · cases row with
      | nil => simp at hc
      | cons n t =>
        have hsn := hsh.of n
        have hn := hin n List.mem_cons_self
        have ht1 : t.length ≤ 100000 := by simp at hrl; omega
        generalize (upd H e (.lst [])) = H1 at sm1 ha1 ⊢
        refine ⟨_, rfl, g, _, _, rfl, sm1 _ _ hg, gfs_no _ _ _ (by decide +kernel) (by decide +kernel) (by decide +kernel), _, rfl, _, _, _, _, rfl, rfl, SqL.of ha1, atI_nat (j := 0) rfl, g, names, rs, n, rfl, G.same sm1, hn, by omega, fun p1 H2 nr => ?_⟩
        obtain ⟨hp1, sm2, us, hus, hpr⟩ := nr
        have sm12 := sm1.trans sm2
        have ha2 := sm12 _ _ ha
        refine ⟨p1, rfl, ⟨_, SqL.of hus⟩, for_list (K := K) (a := p1) (xs := us.map V.ref) (fun i σ' H' => ∃ x3 x4 : Option V, σ' = [some (.ref g), some (.ref a), some (.str c), x3, x4] ∧ H' = H2 ∧ ((rulesOf rs n).take i).find? (fun p => decide (p.1 = c)) = none) ?_ ?_ ?_ ?_⟩
        · exact ⟨_, _, rfl, rfl, rfl⟩
        · rintro i σ' H' _ ⟨_, _, rfl, rfl, _⟩
          exact SqL.of hus
        · rintro i x σ' H' hi ⟨x3, x4, rfl, rfl, hf⟩
          obtain ⟨u0, hui, rfl⟩ := map_at hi
          obtain ⟨r, hr1, _, w0, _, hw1, hw2⟩ := paired_get hpr hui
          have hrl2 := hsn.2 r (List.mem_of_getElem? hr1)
          refine ⟨u0, _, rfl, SqT.of hw1, rfl, _, _, rfl, _, _, rfl, rfl, _, rfl, _, rfl, rfl, _, rfl, iteB (fun h1 => ?_) (fun h1 => ?_)⟩
          · have e1 : r.1 = c := V.str.inj (of_decide_eq_true h1)
            have hby : byL rs n c = some r := by
              unfold byL
              rw [← List.take_append_drop i (rulesOf rs n), List.find?_append, hf, List.drop_eq_getElem_cons (List.getElem?_eq_some_iff.mp hr1).1, (List.getElem?_eq_some_iff.mp hr1).2, List.find?_cons_of_pos (by simpa using e1)]
              rfl
            have hst : stepL rs (some (n :: t)) c = some (r.2 ++ t) := by
              show Option.map (fun p : Step => p.2 ++ t) (byL rs n c) = _
              rw [hby]
              rfl
            refine ⟨_, rfl, _, rfl, _, rfl, a, _, rfl, SqL.of ha2, fun d hd => ?_⟩
            have ec : cutV ((n :: t).map V.str) (some (1 : Int)) none = t.map V.str := by
              rw [show (1 : Int) = ((1 : Nat) : Int) from rfl, cut_ge]; rfl
            rw [ec]
            have smc := same_new hd (o := .lst (t.map V.str))
            refine ⟨w0, d, _, _, rfl, rfl, smc _ _ hw2, upd_same, by rw [List.length_map, List.length_map]; exact sl2 (by omega), fun w hw => ?_⟩
            refine q _ _ (sm12.trans (smc.trans (same_new hw))) (.inr ⟨w, r.2 ++ t, rfl, hst, sm12.free (smc.free hw), by rw [upd_same, List.map_append]⟩)
          · have e1 : ¬ r.1 = c := fun z => of_decide_eq_false h1 (by rw [z])
            refine ⟨_, _, rfl, rfl, ?_⟩
            rw [take_snoc hr1, List.find?_append, hf, List.find?_cons_of_neg (by simpa using e1)]
            rfl
        · rintro σ' H' ⟨x3, x4, rfl, rfl, hf⟩
          rw [List.length_map, paired_len hpr, List.take_length] at hf
          have hst : stepL rs (some (n :: t)) c = none := by
            show Option.map (fun p : Step => p.2 ++ t) (byL rs n c) = _
            unfold byL
            rw [hf]
            rfl
          exact q _ _ sm12 (.inl ⟨rfl, hst⟩)
def sp_by_letters (C : Addr) : Sp := fun vs H Q _ => ∃ (H0 : Hp) (g : Addr) (v : V) (o : Row?) (z : Str) (names : List Str) (rs : List Rule), vs = [.ref g, v, .str z] ∧ GramAt C H g names rs ∧ Same H0 H ∧ RowF H0 H v o ∧ RowK names 1000 o ∧ z.length ≤ 90 ∧ (∀ r ∈ rs, r.1 ∈ names ∧ ∀ x ∈ r.2.2, x ∈ names) ∧ ShortR rs ∧ ∀ v' H', Same H H' → RowF H0 H' v' (byLs rs o z) → Q v' H'
theorem ok_by_letters (T : Txt K mg A) : FnOk P w K mg base CX0 3 A.a_by_letters A.d_by_letters ["grammar", "row", "word"] (sp_by_letters A.c_Grammar) := by
  have G_one_step : FnOk P w K mg base CX0 2 A.a_one_step A.d_one_step ["grammar", "row", "letter"] (sp_one_step A.c_Grammar) := ok_one_step T
  refine T.F_by_letters.ok sc_by_letters (fun vs H Q E h => ?_) (fun cdv A0 outer s0 H vs Q E hr h => ?_)
  · obtain ⟨_, _, _, _, _, _, _, rfl, _⟩ := h
    rfl
  · obtain ⟨H0, g, v, o, z, names, rs, rfl, G, sm0, hv, hk, hz, hin, hsh, q⟩ := h
    refine ⟨_, (pss_cons (ps_for PassesOwn.never rfl (pi_str (pv 2)) (pg_name (i := 3) sc_by_letters.nd rfl (Or.inl rfl))
 (pss_one (ps_set (i := 1) sc_by_letters.nd rfl (Or.inl rfl) (pe_call G_one_step (hr.mono (by decide)) (by rfl) T.g_one_step T.F_one_step.kp T.b_one_step .nil pass0 (pa_cons (pv 0) (pa_cons (pv 1) (pa_cons (pv 3) pa_nil)))))))
 (pss_one (ps_ret (pv 1)))), ?_⟩
    refine ⟨_, rfl, z, rfl, for_it (walk_str (z := z)) (fun i σ' H' => ∃ (v' : V) (x3 : Option V), σ' = [some (.ref g), some v', some (.str z), x3] ∧ Same H H' ∧ RowF H0 H' v' (((signsOf z).take i).foldl (stepL rs) o) ∧ RowK names (1000 + 1000 * i) (((signsOf z).take i).foldl (stepL rs) o)) ?_ ?_ ?_ ?_⟩
    · exact ⟨v, _, rfl, Same.refl _, hv, hk⟩
    · intro _ _ _ _ _
      trivial
    · rintro i x σ' H1 H2 hi ⟨v1, x3, rfl, sm, hv1, hk1⟩ ⟨rfl, c, hc, rfl⟩
      have hi90 : i < 90 := by
        have : z.length = z.cps.size := rfl
        omega
      refine ⟨_, rfl, _, rfl, _, rfl, g, v1, _, ⟨#[c]⟩, names, rs, rfl, G.same sm, hv1.o, fun r e => ⟨(hk1 r e).1, by have := (hk1 r e).2; omega⟩, hsh, fun v2 H3 sm3 hv2 => ?_⟩
      have e : ((signsOf z).take (i + 1)).foldl (stepL rs) o = stepL rs (((signsOf z).take i).foldl (stepL rs) o) ⟨#[c]⟩ := by
        rw [take_snoc (signs_at hc), List.foldl_append]
        rfl
      refine ⟨_, _, rfl, sm.trans sm3, ?_, ?_⟩
      · rw [e]; exact hv2.under (sm0.trans sm)
      · rw [e]
        have := hk1.step hin hsh ⟨#[c]⟩
        rw [show 1000 + 1000 * (i + 1) = 1000 + 1000 * i + 1000 by omega]
        exact this
    · rintro σ' H1 ⟨v1, x3, rfl, sm, hv1, hk1⟩
      have e : (signsOf z).take z.cps.size = signsOf z := by
        have := signs_len z
        rw [show z.length = z.cps.size from rfl] at this
        rw [← this, List.take_length]
      rw [e] at hv1
      exact ⟨_, rfl, q _ _ sm hv1⟩
def sp_runs_to (C : Addr) : Sp := fun vs H Q _ => ∃ (g a : Addr) (z : Str) (names : List Str) (rs : List Rule) (row : List Str), vs = [.ref g, .ref a, .str z] ∧ GramAt C H g names rs ∧ names.Nodup ∧ names.length ≤ 1000 ∧ (∀ r ∈ rs, r.1 ∈ names ∧ ∀ x ∈ r.2.2, x ∈ names) ∧ ShortR rs ∧ EndsR names rs ∧ PlainR rs ∧ H a = some (.lst (row.map V.str)) ∧ (∀ x ∈ row, x ∈ names) ∧ row.length ≤ 1000 ∧ z.length ≤ 90 ∧ ∀ v H', Same H H' → RowF H H' v (byLs rs (some row) z) → Q v H'
theorem ok_runs_to (T : Txt K mg A) : FnOk P w K mg base CX0 5 A.a_runs_to A.d_runs_to ["grammar", "row", "word"] (sp_runs_to A.c_Grammar) := by
  have G_look_at_tongue : FnOk P w K mg base CX0 4 A.a_look_at_tongue A.d_look_at_tongue ["grammar", "rows"] (sp_look_tongue A.c_Grammar) := ok_look_at_tongue T
  have G_by_letters : FnOk P w K mg base CX0 3 A.a_by_letters A.d_by_letters ["grammar", "row", "word"] (sp_by_letters A.c_Grammar) := ok_by_letters T
  refine T.F_runs_to.ok sc_runs_to (fun vs H Q E h => ?_) (fun cdv A0 outer s0 H vs Q E hr h => ?_)
  · obtain ⟨_, _, _, _, _, _, rfl, _⟩ := h
    rfl
  · obtain ⟨g, a, z, names, rs, row, rfl, G, hnd, hnl, hin, hsh, he, hp, ha, hrn, hrl, hz, q⟩ := h
    refine ⟨_, (pss_cons (ps_expr (pe_call G_look_at_tongue (hr.mono (by decide)) (by rfl) T.g_look_at_tongue T.F_look_at_tongue.kp T.b_look_at_tongue .nil pass0 (pa_cons (pv 0) (pa_cons (pe_lst (pa_cons (pv 1) pa_nil)) pa_nil))))
 (pss_one (ps_ret (pe_call G_by_letters (hr.mono (by decide)) (by rfl) T.g_by_letters T.F_by_letters.kp T.b_by_letters .nil pass0 (pa_cons (pv 0) (pa_cons (pe_callTy (T := "list") (r := Evl.rListS K) call_list_of (by rfl) T.list_ (by decide +kernel) (pa_cons (pv 1) pa_nil)) (pa_cons (pv 2) pa_nil))))))), ?_⟩
    refine ⟨_, rfl, _, rfl, sl2 (by show 1 ≤ 1000000; decide), fun l hl => ?_⟩
    have sml := same_new hl (o := .lst [.ref a])
    refine ⟨g, l, names, rs, [a], [row], rfl, G.same sml, hnd, hnl, hin, hsh, he, hp, upd_same, .cons ⟨sml _ _ ha, hrn⟩ .nil, fun H1 sm1 => ?_⟩
    have sm01 := sml.trans sm1
    refine ⟨_, rfl, _, rfl, a, _, rfl, .inl (SqL.of (sm01 _ _ ha)), fun m hm => ?_⟩
    have smm := same_new hm (o := .lst (row.map V.str))
    refine ⟨_, rfl, H, g, _, some row, z, names, rs, rfl, G.same (sm01.trans smm), sm01.trans smm, .inr ⟨m, row, rfl, rfl, sm01.free hm, upd_same⟩, fun r e => ?_, hz, hin, hsh, fun v' H' sm' hv' => q v' H' ((sm01.trans smm).trans sm') hv'⟩
    rw [← Option.some.inj e]
    exact ⟨hrn, hrl⟩
def sp_ends_by (C : Addr) : Sp := fun vs H Q _ => ∃ (g a : Addr) (z : Str) (names : List Str) (rs : List Rule) (row : List Str), vs = [.ref g, .ref a, .str z] ∧ GramAt C H g names rs ∧ names.Nodup ∧ names.length ≤ 1000 ∧ (∀ r ∈ rs, r.1 ∈ names ∧ ∀ x ∈ r.2.2, x ∈ names) ∧ ShortR rs ∧ EndsR names rs ∧ PlainR rs ∧ H a = some (.lst (row.map V.str)) ∧ (∀ x ∈ row, x ∈ names) ∧ row.length ≤ 1000 ∧ z.length ≤ 90 ∧ ∀ H', Same H H' → Q (.bl (decide (byLs rs (some row) z = some []))) H'
theorem ok_ends_by (T : Txt K mg A) : FnOk P w K mg base CX0 6 A.a_ends_by A.d_ends_by ["grammar", "row", "word"] (sp_ends_by A.c_Grammar) := by
  have G_runs_to : FnOk P w K mg base CX0 5 A.a_runs_to A.d_runs_to ["grammar", "row", "word"] (sp_runs_to A.c_Grammar) := ok_runs_to T
  refine T.F_ends_by.ok sc_ends_by (fun vs H Q E h => ?_) (fun cdv A0 outer s0 H vs Q E hr h => ?_)
  · obtain ⟨_, _, _, _, _, _, rfl, _⟩ := h
    rfl
  · obtain ⟨g, a, z, names, rs, row, rfl, G, hnd, hnl, hin, hsh, he, hp, ha, hrn, hrl, hz, q⟩ := h
    have hu64 := hu64_of hr
    refine ⟨_, (pss_one (ps_ret (pe_cmpR (r := rEqP K) (op_eqP hu64) (pe_call G_runs_to (hr.mono (by decide)) (by rfl) T.g_runs_to T.F_runs_to.kp T.b_runs_to .nil pass0 (pa_cons (pv 0) (pa_cons (pv 1) (pa_cons (pv 2) pa_nil)))) (pe_lst pa_nil) (nomark _)))), ?_⟩
    refine ⟨_, rfl, _, rfl, _, rfl, g, a, z, names, rs, row, rfl, G, hnd, hnl, hin, hsh, he, hp, ha, hrn, hrl, hz, fun v H1 sm1 hv => ?_⟩
    refine ⟨Nat.zero_le _, fun e he => ?_⟩
    have sme := same_new he (o := .lst [])
    refine ⟨eRO _, eRO (some []), dp_RO (hv.o.same sme), .lst (SqL.of upd_same) .nil, Nat.le_trans (dep_RO _) (by decide), ?_⟩
    rw [enc_RO]
    exact q _ (sm1.trans sme)
end
end SG
namespace SG
open PySem PySem.Spec PyProof.Rows L2
section
variable {P : Program} {w : World} {K : PySem.W.Frag} {mg : Str → Option Value} {base : Heap} {A : Ad}
def sp_letters_of_both (C : Addr) : Sp := fun vs H Q _ => ∃ (g a : Addr) (v1 v2 : V) (p : PairR) (names : List Str) (rs : List Rule), vs = [.ref g, .ref a] ∧ GramAt C H g names rs ∧ H a = some (.lst [v1, v2]) ∧ RowO H v1 p.1 ∧ RowO H v2 p.2 ∧ RowK names 100000 p.1 ∧ RowK names 100000 p.2 ∧ ShortR rs ∧ (once (headsL rs p.1 ++ headsL rs p.2)).length < 64 ∧ ∀ q H', Same H H' → H q = none → H' q = some (.lst ((lettersP rs p).map V.str)) → Q (.ref q) H'
theorem ok_letters_of_both (T : Txt K mg A) : FnOk P w K mg base CX0 2 A.a_letters_of_both A.d_letters_of_both ["grammar", "rows"] (sp_letters_of_both A.c_Grammar) := by
  have G_Grammar_rules_of : FnOk P w K mg base CX0 1 A.a_Grammar_rules_of A.d_Grammar_rules_of ["self", "name"] (sp_G_rules_of A.c_Grammar) := ok_Grammar_rules_of T
  refine T.F_letters_of_both.ok sc_letters_of_both (fun vs H Q E h => ?_) (fun cdv A0 outer s0 H vs Q E hr h => ?_)
  · obtain ⟨_, _, _, _, _, _, _, rfl, _⟩ := h
    rfl
  · obtain ⟨g, a, v1, v2, p, names, rs, rfl, G, ha, ho1, ho2, hk1, hk2, hsh, h64, q⟩ := h
    have hu := hu_of hr
    have hu64 := hu64_of hr
    obtain ⟨dx, kn, st, od, hg⟩ := G.ins
    refine ⟨_, (pss_cons (ps_set (i := 2) sc_letters_of_both.nd rfl (Or.inl rfl) pe_dnewK)
 (pss_cons (ps_for PassesOwn.never rfl (pi_list (pv 1)) (pg_name (i := 3) sc_letters_of_both.nd rfl (Or.inl rfl))
 (pss_one (ps_if (PW.pt (pw_and (pt_cmpR op_notN (pv 3) pe_non (nomark _)) (pw_and1 (pt_cmpR (r := rNeP K) (op_neP hu64) (pv 3) (pe_lst pa_nil) (nomark _))))) (pss_one (ps_for PassesOwn.never rfl (pi_list (pe_meth (pv 0) T.cl_Grammar T.m_Grammar_rules_of G_Grammar_rules_of (hr.mono (by decide)) T.b_Grammar_rules_of .nil pass0 (pa_cons (pe_ix (r := rIxL K) ix_list (pv 3) pe_int (fun _ _ => rfl)) pa_nil))) (pg_tup (by rfl) (pgs_cons (pg_name (i := 4) sc_letters_of_both.nd rfl (Or.inl rfl)) (pgs_cons (pg_name (i := 5) sc_letters_of_both.nd rfl (Or.inl rfl)) pgs_nil)))
 (pss_one (ps_dput hu (pv 2) (pv 4) pe_bl rfl)))) pss_nil)))
 (pss_one (ps_ret (pe_callB (id := "sorted") (r := rSortedD) (cr_sortedD rfl) (by rfl) T.sorted (by decide +kernel) (pa_cons (pv 2) pa_nil)))))), ?_⟩
    intro d hd
    have smd := same_new hd (o := .dK [])
    have hdd : (upd H d (.dK [])) d = some (.dK (kvsT (once []))) := upd_same
    have hpr : Paired (fun v o => RowO H v o ∧ RowK names 100000 o) [v1, v2] [p.1, p.2] := .cons ⟨ho1, hk1⟩ (.cons ⟨ho2, hk2⟩ .nil)
    refine ⟨_, rfl, a, rfl, ⟨_, SqL.of (smd _ _ ha)⟩, for_list (K := K) (a := a) (xs := [v1, v2]) (fun i σ' H' => ∃ x3 x4 x5 : Option V, σ' = [some (.ref g), some (.ref a), some (.ref d), x3, x4, x5] ∧ Same H H' ∧ H' d = some (.dK (kvsT (once (([p.1, p.2].take i).flatMap (headsL rs)))))) ?_ ?_ ?_ ?_⟩
    · exact ⟨_, _, _, rfl, smd, hdd⟩
    · rintro i σ' H' _ ⟨_, _, _, rfl, sm, _⟩
      exact SqL.of (sm _ _ ha)
    · rintro i v σ' H2 hi ⟨x3, x4, x5, rfl, sm2, hd2⟩
      obtain ⟨o, ho, hro, hrk⟩ := paired_get hpr hi
      have e1 : ([p.1, p.2].take (i + 1)).flatMap (headsL rs) = ([p.1, p.2].take i).flatMap (headsL rs) ++ headsL rs o := by
        rw [take_snoc ho, List.flatMap_append]
        simp
      rw [e1]
      have hdone : (([p.1, p.2].take i).flatMap (headsL rs)).length ≤ 1000 := by
        have g : ∀ o : Row?, (headsL rs o).length ≤ 100 := fun o => by
          match o with
          | none => exact Nat.zero_le _
          | some [] => exact Nat.zero_le _
          | some (n :: t) => show ((rulesOf rs n).map (·.1)).length ≤ 100; rw [List.length_map]; exact (hsh.of n).1
        have h1 := flat_lenP g ([p.1, p.2].take i)
        rw [List.length_take] at h1
        have : ([p.1, p.2] : List Row?).length = 2 := rfl
        omega
      generalize ([p.1, p.2].take i).flatMap (headsL rs) = done at hd2 hdone ⊢
      rcases hro with ⟨rfl, rfl⟩ | ⟨b, row, rfl, rfl, hb⟩
      · refine ⟨_, rfl, rfl, _, rfl, iteNE (decide_eq_true rfl) ?_⟩
        refine ⟨_, _, _, rfl, sm2, ?_⟩
        rw [hd2]
        simp [headsL]
      · refine ⟨_, rfl, rfl, _, rfl, itePos rfl ?_⟩
        have hb2 := sm2 _ _ hb
        refine ⟨_, rfl, Nat.zero_le _, fun e he => ?_⟩
        have sme := same_new he (o := .lst [])
        have sm3 := sm2.trans sme
        have hd3 := sme _ _ hd2
        refine ⟨eSs row, eSs [], dp_Ss (sme _ _ hb2), .lst (SqL.of upd_same) .nil, Nat.le_trans (dep_Ss _) (by decide), _, rfl, ?_⟩
        rw [enc_Ss]
        cases row with
        | nil =>
          refine iteNE (decide_eq_true rfl) ?_
          refine ⟨_, _, _, rfl, sm3, ?_⟩
          rw [hd3]
          simp [headsL]
        | cons n t =>
          refine itePos rfl ?_
          have hn := (hrk _ rfl).1 n List.mem_cons_self
          have hsn := hsh.of n
          refine ⟨_, rfl, g, _, _, rfl, sm3 _ _ hg, gfs_no _ _ _ (by decide +kernel) (by decide +kernel) (by decide +kernel), _, rfl, b, _, _, _, rfl, rfl, SqL.of (sm3 _ _ hb), atI_nat (j := 0) rfl, g, names, rs, n, rfl, G.same sm3, hn, by omega, fun q4 H4 nr => ?_⟩
          obtain ⟨hq4, sm4, us, hus, hpu⟩ := nr
          refine ⟨q4, rfl, ⟨_, SqL.of hus⟩, for_list (K := K) (a := q4) (xs := us.map V.ref) (fun j σ' H' => ∃ x4 x5 : Option V, σ' = [some (.ref g), some (.ref a), some (.ref d), some (.ref b), x4, x5] ∧ Same H H' ∧ H' d = some (.dK (kvsT (once (done ++ ((rulesOf rs n).take j).map (·.1))))) ∧ (∀ c o, c ≠ d → H4 c = some o → H' c = some o)) ?_ ?_ ?_ ?_⟩
          · refine ⟨_, _, rfl, sm3.trans sm4, ?_, fun c o _ h => h⟩
            rw [sm4 _ _ hd3]
            simp
          · rintro j σ' H' _ ⟨_, _, rfl, _, _, kp⟩
            exact SqL.of (kp _ _ (ne_of hus (sm4 _ _ hd3) fun z => (by cases z)) hus)
          · rintro j x σ' H5 hj ⟨x4, x5, rfl, sm5, hd5, kp⟩
            obtain ⟨u0, hui, rfl⟩ := map_at hj
            obtain ⟨r1, hr1, _, w0, _, hw1, hw2⟩ := paired_get hpu hui
            have hw3 := kp _ _ (ne_of hw1 (sm4 _ _ hd3) fun z => (by cases z)) hw1
            refine ⟨u0, _, rfl, SqT.of hw3, rfl, _, _, rfl, _, _, rfl, rfl, ?_⟩
            refine ⟨_, rfl, _, rfl, d, _, rfl, DPut.k (k := Sum.inr r1.1) hd5 ?_, ?_⟩
            · have h1 := once_len _ (done ++ ((rulesOf rs n).take j).map (·.1)) rfl
              unfold kvsT
              rw [List.length_map]
              have h3 := hsn.1
              rw [List.length_append, List.length_map, List.length_take] at h1
              have hdl : done.length ≤ 1000 := hdone
              exact sl1 (by omega)
            rw [kvsT_put]
            refine ⟨_, _, rfl, same_mut sm5 hd, ?_, fun c o nc h => by rw [upd_ne nc]; exact kp c o nc h⟩
            rw [upd_same, take_snoc hr1, List.map_append, ← List.append_assoc, List.map_cons, List.map_nil, once_snoc]
          · rintro σ' H5 ⟨x4, x5, rfl, sm5, hd5, _⟩
            rw [List.length_map, paired_len hpu, List.take_length] at hd5
            exact ⟨_, _, _, rfl, sm5, hd5⟩
    · rintro σ' H2 ⟨x3, x4, x5, rfl, sm2, hd2⟩
      have e1 : ([p.1, p.2].take [v1, v2].length).flatMap (headsL rs) = headsL rs p.1 ++ headsL rs p.2 := by
        show ([p.1, p.2].take 2).flatMap (headsL rs) = _
        simp
      rw [e1] at hd2
      refine ⟨_, rfl, d, _, _, rfl, hd2, kvsT_keys _, h64, fun r hr2 => ?_⟩
      exact q r _ (same_mut sm2 (sm2.free hr2)) (sm2.free hr2) (by rw [upd_same]; rfl)
def sp_pair_key : Sp := fun vs H Q _ => ∃ (a : Addr) (v1 v2 : V) (p : PairR), vs = [.ref a] ∧ H a = some (.lst [v1, v2]) ∧ RowO H v1 p.1 ∧ RowO H v2 p.2 ∧ ∀ t H', Same H H' → NK H' (kP p) (.ref t) → Q (.ref t) H'
theorem ok_pair_key (T : Txt K mg A) : FnOk P w K mg base CX0 1 A.a_pair_key A.d_pair_key ["pair"] sp_pair_key := by
  refine T.F_pair_key.ok sc_pair_key (fun vs H Q E h => ?_) (fun cdv A0 outer s0 H vs Q E hr h => ?_)
  · obtain ⟨_, _, _, _, rfl, _⟩ := h
    rfl
  · obtain ⟨a, v1, v2, p, rfl, ha, ho1, ho2, q⟩ := h
    refine ⟨_, (pss_one (ps_ret (pe_callTy (T := "tuple") call_tuple_of (by rfl) T.tuple_ (by decide +kernel) (pa_cons (pe_lc (own := [("row", 1)]) (g := gName 1) (by rfl) sc_pair_key.nd (pi_list (pv 0)) (blkOk_by (own := [("row", 1)]) (N := ["pair", "row"]) (sc := defScope s_pair_key) (by decide +kernel)) (fun _ _ _ _ _ => (pg_name (i := 1) sc_pair_key.nd rfl (Or.inl rfl))) (fun _ _ _ _ _ => pts_nil) (fun _ _ _ _ _ => (pe_ifExp (pt_cmpR op_isN (pv 1) pe_non (nomark _)) pe_non (pe_callTy (T := "tuple") (r := rTupS K) call_tuple_of (by rfl) T.tuple_ (by decide +kernel) (pa_cons (pv 1) pa_nil))))) pa_nil)))), ?_⟩
    have hpr : Paired (fun v o => RowO H v o) [v1, v2] [p.1, p.2] := .cons ho1 (.cons ho2 .nil)
    refine ⟨_, rfl, a, rfl, ⟨_, SqL.of ha⟩, fun D hD => lc_list (K := K) (a := a) (xs := [v1, v2]) (fun i H' => Same H H' ∧ ∃ us : List V, H' D = some (.lst us) ∧ us.length = i ∧ NKs H' (([p.1, p.2].take i).map kO) us) ?_ ?_ ?_ ?_⟩
    · exact ⟨same_new hD, [], upd_same, rfl, .nil⟩
    · rintro i H' _ ⟨sm, _⟩
      exact SqL.of (sm _ _ ha)
    · rintro i v H2 hi ⟨sm2, us, hus, hul, hnk⟩
      obtain ⟨o, ho, hro⟩ := paired_get hpr hi
      have hi2 : i < 2 := (List.getElem?_eq_some_iff.mp hi).1
      refine ⟨rfl, tyes (iteT ?_)⟩
      rw [take_snoc ho, List.map_append]
      rcases hro with ⟨rfl, rfl⟩ | ⟨b, row, rfl, rfl, hb⟩
      · refine ⟨_, rfl, rfl, _, rfl, itePos (decide_eq_true rfl) ?_⟩
        refine ⟨_, hus, by exact sl1 (by omega), same_mut sm2 hD, us ++ [.non], upd_same, by rw [List.length_append, hul]; rfl, ?_⟩
        exact NKs.app (NKs.mutT (fun t xs e => ne_of e hus fun z => (by cases z)) _ hnk) (.cons .non .nil)
      · refine ⟨_, rfl, rfl, _, rfl, iteNEG (decide_eq_false fun z => (by cases z)) ?_⟩
        refine ⟨_, rfl, b, _, rfl, .inl ⟨SqL.of (sm2 _ _ hb), fun t ht => ?_⟩⟩
        have smt := same_new ht (o := .tup (row.map V.str))
        have h3 := smt _ _ hus
        have htD : t ≠ D := fun z => by rw [z, hus] at ht; cases ht
        have htt : (upd H2 t (.tup (row.map V.str))) t = some (.tup (row.map V.str)) := upd_same
        refine ⟨_, h3, by exact sl1 (by omega), same_mut (sm2.trans smt) hD, us ++ [.ref t], upd_same, by rw [List.length_append, hul]; rfl, ?_⟩
        refine NKs.app (NKs.mutT (fun t xs e => ne_of e h3 fun z => (by cases z)) _ (hnk.same smt)) (.cons ?_ .nil)
        exact nk_row (by rw [upd_ne htD]; exact htt)
    rintro H2 ⟨sm2, us, hus, hul, hnk⟩
    refine ⟨D, us, rfl, .inl ⟨SqL.of hus, fun t ht => ?_⟩⟩
    have smt := same_new ht (o := .tup us)
    refine q t _ (sm2.trans smt) (.tup upd_same ?_)
    have e : ([p.1, p.2].take [v1, v2].length).map kO = [kO p.1, kO p.2] := rfl
    rw [e] at hnk
    exact hnk.same smt
theorem ne_dictN' {H : Hp} {d : Addr} {xs : List NEnt} (hd : H d = some (dictN P w d xs)) {a : Addr} {o : HO} (h : H a = some o) (n : ∀ φ, o ≠ .ext φ) : a ≠ d := fun z => by
  rw [z, hd] at h
  exact n _ (Option.some.inj h).symm
/-- an entry of a layer, apart from a list F -/
def EntF (F : Addr) (H : Hp) (u : Addr) (e : EntP) : Prop := ∃ pa v1 v2, pa ≠ F ∧ v1 ≠ V.ref F ∧ v2 ≠ V.ref F ∧ H u = some (.tup [.str e.1, .ref pa]) ∧ H pa = some (.lst [v1, v2]) ∧ RowO H v1 e.2.1 ∧ RowO H v2 e.2.2
def EntAt (H : Hp) (u : Addr) (e : EntP) : Prop := ∃ pa v1 v2, H u = some (.tup [.str e.1, .ref pa]) ∧ H pa = some (.lst [v1, v2]) ∧ RowO H v1 e.2.1 ∧ RowO H v2 e.2.2
theorem EntF.at_ {F : Addr} {H : Hp} {u : Addr} {e : EntP} (h : EntF F H u e) : EntAt H u e := let ⟨pa, v1, v2, _, _, _, a, b, c, d⟩ := h; ⟨pa, v1, v2, a, b, c, d⟩
theorem EntAt.same {H H' : Hp} (e : Same H H') {u : Addr} {x : EntP} (h : EntAt H u x) : EntAt H' u x := let ⟨pa, v1, v2, a, b, c, d⟩ := h; ⟨pa, v1, v2, e _ _ a, e _ _ b, c.same e, d.same e⟩
theorem EntF.same {F : Addr} {H H' : Hp} (e : Same H H') {u : Addr} {x : EntP} (h : EntF F H u x) : EntF F H' u x := let ⟨pa, v1, v2, n1, n2, n3, a, b, c, d⟩ := h; ⟨pa, v1, v2, n1, n2, n3, e _ _ a, e _ _ b, c.same e, d.same e⟩
theorem RowO.mutL {H : Hp} {F : Addr} {v : V} {o : Row?} (h : RowO H v o) (n : v ≠ .ref F) (u : HO) : RowO (upd H F u) v o := by
  rcases h with h | ⟨a, row, h1, h2, h3⟩
  · exact .inl h
  · exact .inr ⟨a, row, h1, h2, by rw [upd_ne (fun z => n (by rw [h1, z]))]; exact h3⟩
theorem RowO.mutD {H : Hp} {d : Addr} {xs : List NEnt} (hd : H d = some (dictN P w d xs)) {v : V} {o : Row?} (h : RowO H v o) (u : HO) : RowO (upd H d u) v o := by
  refine h.mutL (fun z => ?_) u
  rcases h with ⟨rfl, _⟩ | ⟨a, row, h1, h2, h3⟩
  · cases z
  · rw [h1] at z
    have z := V.ref.inj z
    rw [z, hd] at h3
    unfold dictN at h3
    cases h3
theorem EntF.mutL {F : Addr} {H : Hp} {l : List V} (hF : H F = some (.lst l)) (o : HO) {u : Addr} {x : EntP} (h : EntF F H u x) : EntF F (upd H F o) u x := by
  obtain ⟨pa, v1, v2, n1, n2, n3, a, b, c, d⟩ := h
  exact ⟨pa, v1, v2, n1, n2, n3, by rw [upd_ne (ne_of a hF fun z => by cases z)]; exact a, by rw [upd_ne n1]; exact b, c.mutL n2 _, d.mutL n3 _⟩
theorem EntF.mutD {F d : Addr} {H : Hp} {xs : List NEnt} (hd : H d = some (dictN P w d xs)) (o : HO) {u : Addr} {x : EntP} (h : EntF F H u x) : EntF F (upd H d o) u x := by
  obtain ⟨pa, v1, v2, n1, n2, n3, a, b, c, e⟩ := h
  have k : ∀ {y : Addr} {q : HO}, H y = some q → (∀ φ, q ≠ .ext φ) → (upd H d o) y = some q := fun {y q} h n => by
    rw [upd_ne (fun z => by rw [z, hd] at h; exact n _ (Option.some.inj h).symm)]; exact h
  exact ⟨pa, v1, v2, n1, n2, n3, k a fun φ z => (by cases z), k b fun φ z => (by cases z), c.mutD hd _, e.mutD hd _⟩
def sp_pairs_behind (C : Addr) : Sp := fun vs H Q _ => ∃ (g L : Addr) (us : List Addr) (X : List EntP) (sg names : List Str) (rs : List Rule), vs = [.ref g, .ref L] ∧ GramAt C H g names rs ∧ H L = some (.lst (us.map V.ref)) ∧ Paired (EntAt H) us X ∧ ShortR rs ∧ (∀ p, lettersP rs p = sg.filter (stepsP rs p)) ∧ sg.length ≤ 26 ∧ (∀ c ∈ sg, c.length = 1) ∧
  (∀ e ∈ X, EntOk names 1000 100 e) ∧ X.length * sg.length ≤ 200000 ∧ ∀ q H', Same H H' → (∃ ws : List Addr, H' q = some (.lst (ws.map V.ref)) ∧ Paired (EntAt H') ws (behindP rs sg X)) → Q (.ref q) H'
theorem ok_pairs_behind (T : Txt K mg A) : FnOk P w K mg base CX0 3 A.a_pairs_behind A.d_pairs_behind ["grammar", "layer"] (sp_pairs_behind A.c_Grammar) := by
  have G_letters_of_both : FnOk P w K mg base CX0 2 A.a_letters_of_both A.d_letters_of_both ["grammar", "rows"] (sp_letters_of_both A.c_Grammar) := ok_letters_of_both T
  have G_one_step : FnOk P w K mg base CX0 2 A.a_one_step A.d_one_step ["grammar", "row", "letter"] (sp_one_step A.c_Grammar) := ok_one_step T
  have G_pair_key : FnOk P w K mg base CX0 1 A.a_pair_key A.d_pair_key ["pair"] sp_pair_key := ok_pair_key T
  refine T.F_pairs_behind.ok sc_pairs_behind (fun vs H Q E h => ?_) (fun cdv A0 outer s0 H vs Q E hr h => ?_)
  · obtain ⟨_, _, _, _, _, _, _, rfl, _⟩ := h
    rfl
  · obtain ⟨g, L, us, X, sg, names, rs, rfl, G, hL, hpX, hsh, hlet, hsg, hone, hok, hbig, q⟩ := h
    have hu64 := hu64_of hr
    refine ⟨_, (pss_cons (ps_set (i := 2) sc_pairs_behind.nd rfl (Or.inl rfl) pe_dnewN)
 (pss_cons (ps_set (i := 3) sc_pairs_behind.nd rfl (Or.inl rfl) (pe_lst pa_nil))
 (pss_cons (ps_for PassesOwn.never rfl (pi_list (pv 1)) (pg_tup (by rfl) (pgs_cons (pg_name (i := 4) sc_pairs_behind.nd rfl (Or.inl rfl)) (pgs_cons (pg_name (i := 5) sc_pairs_behind.nd rfl (Or.inl rfl)) pgs_nil)))
 (pss_one (ps_for PassesOwn.never rfl (pi_list (pe_call G_letters_of_both (hr.mono (by decide)) (by rfl) T.g_letters_of_both T.F_letters_of_both.kp T.b_letters_of_both .nil pass0 (pa_cons (pv 0) (pa_cons (pv 5) pa_nil)))) (pg_name (i := 6) sc_pairs_behind.nd rfl (Or.inr rfl))
 (pss_cons (ps_setLc (i := 7) (own := [("row", 8)]) (g := gName 8) (by rfl) sc_pairs_behind.nd rfl rfl (sw_true rfl rfl rfl (by decide +kernel)) (pi_list (pv 5)) (blkOk_by (own := [("row", 8)]) (N := ["grammar", "layer", "seen", "found", "word", "pair", "letter", "behind", "row"]) (sc := defScope s_pairs_behind) (by decide +kernel)) (fun _ _ _ _ _ => (pg_name (i := 8) sc_pairs_behind.nd rfl (Or.inl rfl))) (fun _ _ _ _ _ => pts_nil) (fun _ _ _ _ _ => (pe_call G_one_step (hr.mono (by decide)) (by rfl) T.g_one_step T.F_one_step.kp T.b_one_step .nil pass0 (pa_cons (pv 0) (pa_cons (pv 8) (pa_cons (pv 6) pa_nil))))))
 (pss_one (ps_if (pt_cmpR (r := rInN P w true) (op_notInN hu64) (pe_call G_pair_key (hr.mono (by decide)) (by rfl) T.g_pair_key T.F_pair_key.kp T.b_pair_key .nil pass0 (pa_cons (pv 7) pa_nil)) (pv 2) (by rfl)) (pss_cons (ps_asg pe_bl (pg_sub (pv 2) (pe_call G_pair_key (hr.mono (by decide)) (by rfl) T.g_pair_key T.F_pair_key.kp T.b_pair_key .nil pass0 (pa_cons (pv 7) pa_nil)) (set_dictN hu64)))
 (pss_one (ps_expr (pe_bm PySem.F.plainAttrs_list PySem.F.slot_list_append PySem.F.type_list_append mt_append (pv 3) (pa_cons (pe_tup (pa_cons (pe_op op_add_str (pv 4) (pv 6)) (pa_cons (pv 7) pa_nil))) pa_nil))))) pss_nil))))))
 (pss_one (ps_ret (pv 3)))))), ?_⟩
    intro d hd
    have smd := same_new hd (o := dictN P w d [])
    have hdd : (upd H d (dictN P w d [])) d = some (dictN P w d []) := upd_same
    refine ⟨Nat.zero_le _, fun F hF => ?_⟩
    have smF := same_new hF (o := .lst [])
    have hFF : (upd (upd H d (dictN P w d [])) F (.lst [])) F = some (.lst []) := upd_same
    have hd1 := smF _ _ hdd
    have sm1 := smd.trans smF
    have hF0 : H F = none := smd.free hF
    clear smF smd hdd hF
    let acc : List EntP → List EntP := fun l => l.foldl addP []
    refine ⟨_, rfl, L, rfl, ⟨_, SqL.of (sm1 _ _ hL)⟩, for_list (K := K) (a := L) (xs := us.map V.ref) (fun i σ' H' => ∃ (x4 x5 x6 x7 : Option V) (ws : List Addr) (xs : List NEnt), σ' = [some (.ref g), some (.ref L), some (.ref d), some (.ref F), x4, x5, x6, x7, none] ∧ Same H H' ∧ H' F = some (.lst (ws.map V.ref)) ∧ Paired (EntF F H') ws (acc ((X.take i).flatMap (nextP rs sg))) ∧ H' d = some (dictN P w d xs) ∧ KeysN H' xs ∧ xs.map (·.1) = (acc ((X.take i).flatMap (nextP rs sg))).map fun e => kP e.2) ?_ ?_ ?_ ?_⟩
    · exact ⟨_, _, _, _, [], [], rfl, sm1, hFF, .nil, hd1, fun x hx => (nomatch hx), rfl⟩
    · rintro i σ' H' _ ⟨_, _, _, _, _, _, rfl, sm, _⟩
      exact SqL.of (sm _ _ hL)
    · rintro i x σ' H2 hi ⟨x4, x5, x6, x7, ws, xs, rfl, sm2, hF2, hp2, hd2, hk2, hx2⟩
      obtain ⟨u0, hui, rfl⟩ := map_at hi
      obtain ⟨e, he, pa, v1, v2, hu0, hpa, ho1, ho2⟩ := paired_get hpX hui
      have hme := List.mem_of_getElem? he
      obtain ⟨hel, hek1, hek2⟩ := hok e hme
      have hil := (List.getElem?_eq_some_iff.mp he).1
      have hdone : ((X.take i).flatMap (nextP rs sg)).length ≤ X.length * sg.length := by
        refine Nat.le_trans (flat_lenP (nextP_len rs sg) _) (Nat.mul_le_mul_right _ ?_)
        rw [List.length_take]; omega
      have e1 : (X.take (i + 1)).flatMap (nextP rs sg) = (X.take i).flatMap (nextP rs sg) ++ nextP rs sg e := by
        rw [take_snoc he, List.flatMap_append]
        simp
      rw [e1]
      generalize (X.take i).flatMap (nextP rs sg) = done at hp2 hx2 hdone ⊢
      have hb1 : RowK names 100000 e.2.1 := fun r h => ⟨(hek1 r h).1, by have := (hek1 r h).2; omega⟩
      have hb2 : RowK names 100000 e.2.2 := fun r h => ⟨(hek2 r h).1, by have := (hek2 r h).2; omega⟩
      refine ⟨u0, _, rfl, SqT.of (sm2 _ _ hu0), rfl, _, _, rfl, _, _, rfl, rfl, ?_⟩
      refine ⟨_, rfl, _, rfl, g, pa, v1, v2, e.2, names, rs, rfl, G.same sm2, sm2 _ _ hpa, ho1.same sm2, ho2.same sm2, hb1, hb2, hsh, ?_, fun lt H3 sm3 lt0 hlt => ?_⟩
      · have h1 : (lettersP rs e.2).length ≤ sg.length := by rw [hlet]; exact List.length_filter_le _ _
        unfold lettersP at h1
        rw [ssort_len] at h1
        omega
      rw [hlet] at hlt
      have hnx : nextP rs sg e = (sg.filter (stepsP rs e.2)).map fun c => (e.1 ++ c, stepP rs e.2 c) := rfl
      have hfl := List.length_filter_le (stepsP rs e.2) sg
      have hmem : ∀ c ∈ sg.filter (stepsP rs e.2), c.length = 1 := fun c hc => hone c (List.mem_filter.mp hc).1
      generalize hls : sg.filter (stepsP rs e.2) = ls at hlt hnx hfl hmem
      rw [hnx]
      have hltF : lt ≠ F := fun z => by rw [z, hF2] at lt0; cases lt0
      have hltd : lt ≠ d := fun z => by rw [z, hd2] at lt0; cases lt0
      refine ⟨lt, rfl, ⟨_, SqL.of hlt⟩, for_list (K := K) (a := lt) (xs := ls.map V.str) (fun j σ' H' => ∃ (x6 x7 : Option V) (ws : List Addr) (xs : List NEnt), σ' = [some (.ref g), some (.ref L), some (.ref d), some (.ref F), some (.str e.1), some (.ref pa), x6, x7, none] ∧ Same H H' ∧ H' lt = some (.lst (ls.map V.str)) ∧ H' F = some (.lst (ws.map V.ref)) ∧ Paired (EntF F H') ws (acc (done ++ (ls.take j).map fun c => (e.1 ++ c, stepP rs e.2 c))) ∧ H' d = some (dictN P w d xs) ∧ KeysN H' xs ∧ xs.map (·.1) = (acc (done ++ (ls.take j).map fun c => (e.1 ++ c, stepP rs e.2 c))).map fun e => kP e.2) ?_ ?_ ?_ ?_⟩
      · refine ⟨_, _, ws, xs, rfl, sm2.trans sm3, hlt, sm3 _ _ hF2, ?_, sm3 _ _ hd2, hk2.same sm3, ?_⟩
        · rw [List.take_zero, List.map_nil, List.append_nil]
          exact Paired.mapP hp2 fun _ _ h => h.same sm3
        · rw [List.take_zero, List.map_nil, List.append_nil]
          exact hx2
      · rintro j σ' H' _ ⟨_, _, _, _, rfl, _, h, _⟩
        exact SqL.of h
      · rintro j x σ' H4 hj ⟨x6, x7, ws, xs, rfl, sm4, hlt4, hF4, hp4, hd4, hk4, hx4⟩
        obtain ⟨c, hc, rfl⟩ := map_at hj
        have hcl := hmem c (List.mem_of_getElem? hc)
        have hjl := (List.getElem?_eq_some_iff.mp hc).1
        have e2 : acc (done ++ (ls.take (j + 1)).map fun c => (e.1 ++ c, stepP rs e.2 c)) = addP (acc (done ++ (ls.take j).map fun c => (e.1 ++ c, stepP rs e.2 c))) (e.1 ++ c, stepP rs e.2 c) := by
          show List.foldl addP [] _ = addP (List.foldl addP [] _) _
          rw [take_snoc hc, List.map_append, ← List.append_assoc, List.foldl_append]
          rfl
        have hacl : (acc (done ++ (ls.take j).map fun c => (e.1 ++ c, stepP rs e.2 c))).length ≤ 300000 := by
          have h1 := add_len (done ++ (ls.take j).map fun c => (e.1 ++ c, stepP rs e.2 c)) []
          rw [List.length_append, List.length_map, List.length_take, List.length_nil] at h1
          show (List.foldl addP [] _).length ≤ _
          omega
        rw [e2]
        generalize acc (done ++ (ls.take j).map fun c => (e.1 ++ c, stepP rs e.2 c)) = fo at hp4 hx4 hacl ⊢
        have hwl : ws.length = fo.length := paired_len hp4
        have hFd : F ≠ d := (ne_dictN' hd4 hF4 fun φ z => by cases z)
        have hpa4 := sm4 _ _ hpa
        have hpr : Paired (fun v o => RowO H4 v o ∧ RowK names 100000 o) [v1, v2] [e.2.1, e.2.2] := .cons ⟨ho1.same sm4, hb1⟩ (.cons ⟨ho2.same sm4, hb2⟩ .nil)
        refine ⟨_, rfl, pa, rfl, ⟨_, SqL.of hpa4⟩, fun B hB => lc_list (K := K) (a := pa) (xs := [v1, v2]) (fun k H' => Same H4 H' ∧ ∃ zs : List V, H' B = some (.lst zs) ∧ zs.length = k ∧ Paired (fun z o => RowO H' z (stepL rs o c) ∧ z ≠ .ref F ∧ z ≠ .ref B) zs ([e.2.1, e.2.2].take k)) ?_ ?_ ?_ ?_⟩
        · exact ⟨same_new hB, [], upd_same, rfl, .nil⟩
        · rintro k H' _ ⟨sm, _⟩
          exact SqL.of (sm _ _ hpa4)
        · rintro k v H5 hk ⟨sm5, zs, hzs, hzl, hzp⟩
          obtain ⟨o, ho, hro, hrk⟩ := paired_get hpr hk
          have hk2 : k < 2 := (List.getElem?_eq_some_iff.mp hk).1
          refine ⟨rfl, tyes (iteT ?_)⟩
          refine ⟨_, rfl, _, rfl, _, rfl, g, v, o, c, names, rs, rfl, G.same (sm4.trans sm5), hro.same sm5, hrk, hsh, fun z H6 sm6 hz => ?_⟩
          have h6 := sm6 _ _ hzs
          have hF5 := sm5 _ _ hF4
          have nz : ∀ y : Addr, (∃ o, H5 y = some o) → z ≠ .ref y := fun y ⟨o, hy⟩ q => by
            rcases hz with ⟨rfl, _⟩ | ⟨a, r, rfl, _, h0, _⟩
            · cases q
            · have q := V.ref.inj q
              rw [q, hy] at h0
              cases h0
          have nzF := nz F ⟨_, hF5⟩
          have nzB := nz B ⟨_, hzs⟩
          refine ⟨_, h6, by exact sl1 (by omega), same_mut (sm5.trans sm6) hB, zs ++ [z], upd_same, by rw [List.length_append, hzl]; rfl, ?_⟩
          rw [take_snoc ho]
          exact paired_app (F := fun z' o => RowO (upd H6 B (.lst (zs ++ [z]))) z' (stepL rs o c) ∧ z' ≠ .ref F ∧ z' ≠ .ref B) ⟨hz.o.mutL nzB _, nzF, nzB⟩ (Paired.mapP hzp fun _ _ ⟨a, b, d⟩ => ⟨(a.same sm6).mutL d _, b, d⟩)
        rintro H5 ⟨sm5, zs, hzs, _, hzp⟩
        have e3 : [e.2.1, e.2.2].take [v1, v2].length = [e.2.1, e.2.2] := rfl
        rw [e3] at hzp
        obtain ⟨z1, z2, rfl, ⟨hz1, hn1, _⟩, ⟨hz2, hn2, _⟩⟩ : ∃ z1 z2, zs = [z1, z2] ∧ (RowO H5 z1 (stepL rs e.2.1 c) ∧ z1 ≠ .ref F ∧ z1 ≠ .ref B) ∧ (RowO H5 z2 (stepL rs e.2.2 c) ∧ z2 ≠ .ref F ∧ z2 ≠ .ref B) := by
          cases hzp with
          | cons a hzp => cases hzp with
            | cons b hzp => cases hzp with
              | nil => exact ⟨_, _, rfl, a, b⟩
        have hBF : B ≠ F := fun z => by rw [z, hF4] at hB; cases hB
        have hd5 := sm5 _ _ hd4
        have hF5 := sm5 _ _ hF4
        -- the key
        refine ⟨_, rfl, B, z1, z2, stepP rs e.2 c, rfl, hzs, hz1, hz2, fun t H6 sm6 nk6 => ?_⟩
        have sm46 := sm5.trans sm6
        have hd6 := sm6 _ _ hd5
        refine ⟨_, rfl, kP (stepP rs e.2 c), t, d, xs, rfl, rfl, nk6, depth_kP _, hd6, hk4.same sm46, _, rfl, ?_⟩
        by_cases hin : stepP rs e.2 c ∈ fo.map (·.2)
        · have ha : (atN xs (kP (stepP rs e.2 c))).isSome = true := by
            unfold atN
            rw [Option.isSome_map, List.find?_isSome]
            obtain ⟨y, hy, e4⟩ := List.mem_map.mp hin
            have h1 : kP y.2 ∈ xs.map (·.1) := by rw [hx4]; exact List.mem_map_of_mem hy
            obtain ⟨x, hx, e5⟩ := List.mem_map.mp h1
            exact ⟨x, hx, decide_eq_true (by rw [e5, e4])⟩
          rw [ha]
          refine iteF ?_
          have e5 : addP fo (e.1 ++ c, stepP rs e.2 c) = fo := if_pos hin
          rw [e5]
          exact ⟨_, _, ws, xs, rfl, sm4.trans sm46, sm46 _ _ hlt4, sm46 _ _ hF4, Paired.mapP hp4 fun _ _ h => h.same sm46, hd6, hk4.same sm46, hx4⟩
        · have ha : atN xs (kP (stepP rs e.2 c)) = none := by
            unfold atN
            rw [Option.map_eq_none_iff, List.find?_eq_none]
            intro x hx hxk
            have h1 : x.1 ∈ xs.map (·.1) := List.mem_map_of_mem hx
            rw [hx4] at h1
            obtain ⟨y, hy, e4⟩ := List.mem_map.mp h1
            have e5 := kP_inj (e4.trans (of_decide_eq_true hxk))
            exact hin (by rw [← e5]; exact List.mem_map_of_mem hy)
          have ha2 : (atN xs (kP (stepP rs e.2 c))).isSome = false := by rw [ha]; rfl
          rw [ha2]
          refine iteT ?_
          have e5 : addP fo (e.1 ++ c, stepP rs e.2 c) = fo ++ [(e.1 ++ c, stepP rs e.2 c)] := if_neg hin
          rw [e5]
          refine ⟨_, rfl, _, rfl, B, z1, z2, stepP rs e.2 c, rfl, sm6 _ _ hzs, hz1.same sm6, hz2.same sm6, fun t2 H7 sm7 nk7 => ?_⟩
          have sm47 := sm46.trans sm7
          have sm57 := sm6.trans sm7
          have hd7 := sm7 _ _ hd6
          have hxl : xs.length = fo.length := by
            have := congrArg List.length hx4
            rw [List.length_map, List.length_map] at this
            exact this
          refine ⟨kP (stepP rs e.2 c), t2, d, xs, rfl, rfl, nk7, depth_kP _, hd7, hk4.same sm47, ha, by exact sl1 (by omega), ?_⟩
          have hk8 : KeysN (upd H7 d (dictN P w d (xs ++ [(kP (stepP rs e.2 c), t2, V.bl true)]))) (xs ++ [(kP (stepP rs e.2 c), t2, V.bl true)]) := (hk4.same sm47).put hd7 nk7 (depth_kP _)
          have hF8 : (upd H7 d (dictN P w d (xs ++ [(kP (stepP rs e.2 c), t2, V.bl true)]))) F = some (.lst (ws.map V.ref)) := by rw [upd_ne hFd]; exact sm47 _ _ hF4
          have hp8 : Paired (EntF F (upd H7 d (dictN P w d (xs ++ [(kP (stepP rs e.2 c), t2, V.bl true)])))) ws fo := Paired.mapP hp4 fun _ _ h => (h.same sm47).mutD hd7 _
          have hB8 : (upd H7 d (dictN P w d (xs ++ [(kP (stepP rs e.2 c), t2, V.bl true)]))) B = some (.lst [z1, z2]) := by rw [upd_ne (ne_dictN' hd7 (sm57 _ _ hzs) fun φ z => (by cases z))]; exact sm57 _ _ hzs
          have hz18 := (hz1.same sm57).mutD hd7 (dictN P w d (xs ++ [(kP (stepP rs e.2 c), t2, V.bl true)]))
          have hz28 := (hz2.same sm57).mutD hd7 (dictN P w d (xs ++ [(kP (stepP rs e.2 c), t2, V.bl true)]))
          have hd8 : (upd H7 d (dictN P w d (xs ++ [(kP (stepP rs e.2 c), t2, V.bl true)]))) d = some (dictN P w d (xs ++ [(kP (stepP rs e.2 c), t2, V.bl true)])) := upd_same
          have sm8 : Same H (upd H7 d (dictN P w d (xs ++ [(kP (stepP rs e.2 c), t2, V.bl true)]))) := same_mut (sm4.trans sm47) hd
          have hlt8 : (upd H7 d (dictN P w d (xs ++ [(kP (stepP rs e.2 c), t2, V.bl true)]))) lt = some (.lst (ls.map V.str)) := by rw [upd_ne hltd]; exact sm47 _ _ hlt4
          refine ⟨_, rfl, .inl ⟨rfl, _, SqL.of hF8⟩, _, rfl, _, rfl, _, _, rfl, rfl, by rw [sizeLine_eq]; omega, _, rfl, sl2 (by show 2 ≤ 1000000; decide), fun u hu => ?_⟩
          have smu := same_new hu (o := .tup [.str (e.1 ++ c), .ref B])
          have hF9 := smu _ _ hF8
          have huu : (upd (upd H7 d (dictN P w d (xs ++ [(kP (stepP rs e.2 c), t2, V.bl true)]))) u (.tup [.str (e.1 ++ c), .ref B])) u = some (.tup [.str (e.1 ++ c), .ref B]) := upd_same
          have sm9 := sm8.trans smu
          have hd9 := smu _ _ hd8
          have hk9 := hk8.same smu
          have hlt9 := smu _ _ hlt8
          have hent : EntF F (upd (upd H7 d (dictN P w d (xs ++ [(kP (stepP rs e.2 c), t2, V.bl true)]))) u (.tup [.str (e.1 ++ c), .ref B])) u (e.1 ++ c, stepP rs e.2 c) := ⟨B, z1, z2, hBF, hn1, hn2, huu, smu _ _ hB8, hz18.same smu, hz28.same smu⟩
          have hp9 : Paired (EntF F (upd (upd H7 d (dictN P w d (xs ++ [(kP (stepP rs e.2 c), t2, V.bl true)]))) u (.tup [.str (e.1 ++ c), .ref B]))) ws fo := Paired.mapP hp8 fun _ _ h => h.same smu
          refine ⟨F, _, _, rfl, rfl, hF9, by rw [List.length_map]; exact sl1 (by omega), ?_⟩
          refine ⟨_, _, ws ++ [u], xs ++ [(kP (stepP rs e.2 c), t2, V.bl true)], rfl, same_mut sm9 hF0, by rw [upd_ne hltF]; exact hlt9, by rw [upd_same, List.map_append]; rfl, ?_, by rw [upd_ne hFd.symm]; exact hd9, ?_, ?_⟩
          · exact paired_app (F := EntF F (upd (upd (upd H7 d (dictN P w d (xs ++ [(kP (stepP rs e.2 c), t2, V.bl true)]))) u (.tup [.str (e.1 ++ c), .ref B])) F (.lst (ws.map V.ref ++ [V.ref u])))) (hent.mutL hF9 _) (Paired.mapP hp9 fun _ _ h => h.mutL hF9 _)
          · exact fun x hx => ⟨(hk9 x hx).1.mutT (fun t xs e => ne_of e hF9 fun z => (by cases z)) _, (hk9 x hx).2⟩
          · rw [List.map_append, List.map_append, hx4]
            rfl
      · rintro σ' H4 ⟨x6, x7, ws, xs, rfl, sm4, hlt4, hF4, hp4, hd4, hk4, hx4⟩
        rw [List.length_map, List.take_length] at hp4 hx4
        exact ⟨_, _, _, _, ws, xs, rfl, sm4, hF4, hp4, hd4, hk4, hx4⟩
    · rintro σ' H2 ⟨x4, x5, x6, x7, ws, xs, rfl, sm2, hF2, hp2, hd2, hk2, hx2⟩
      rw [List.length_map, paired_len hpX, List.take_length] at hp2
      exact ⟨_, rfl, q F H2 sm2 ⟨ws, hF2, Paired.mapP hp2 fun _ _ h => h.at_⟩⟩
def sp_parting (C : Addr) : Sp := fun vs H Q _ => ∃ (g a1 a2 : Addr) (m : Nat) (names sg : List Str) (rs : List Rule) (one other : List Str), vs = [.ref g, .ref a1, .ref a2, .int m] ∧ GramAt C H g names rs ∧ GoodR names rs ∧ names.Nodup ∧ names.length ≤ 1000 ∧ rs.length ≤ 100 ∧ EndsR names rs ∧ PlainR rs ∧
  H a1 = some (.lst (one.map V.str)) ∧ H a2 = some (.lst (other.map V.str)) ∧ (∀ x ∈ one, x ∈ names) ∧ (∀ x ∈ other, x ∈ names) ∧ one.length ≤ 1000 ∧ other.length ≤ 1000 ∧ (∀ p, lettersP rs p = sg.filter (stepsP rs p)) ∧ sg.length ≤ 26 ∧ (∀ c ∈ sg, c.length = 1) ∧ m ≤ 50 ∧ (∀ i, i ≤ m + 1 → sg.length ^ i ≤ 20000) ∧
  ∀ H', Same H H' → Q (optT (firstL (layQ rs sg (some one, some other)) (m + 1))) H'
theorem ok_parting_word (T : Txt K mg A) : FnOk P w K mg base CX0 5 A.a_parting_word A.d_parting_word ["grammar", "one", "other", "most"] (sp_parting A.c_Grammar) := by
  have G_look_at_tongue : FnOk P w K mg base CX0 4 A.a_look_at_tongue A.d_look_at_tongue ["grammar", "rows"] (sp_look_tongue A.c_Grammar) := ok_look_at_tongue T
  have G_pairs_behind : FnOk P w K mg base CX0 3 A.a_pairs_behind A.d_pairs_behind ["grammar", "layer"] (sp_pairs_behind A.c_Grammar) := ok_pairs_behind T
  refine T.F_parting_word.ok sc_parting_word (fun vs H Q E h => ?_) (fun cdv A0 outer s0 H vs Q E hr h => ?_)
  · obtain ⟨_, _, _, _, _, _, _, _, _, rfl, _⟩ := h
    rfl
  · obtain ⟨g, a1, a2, m, names, sg, rs, one, other, rfl, G, hgood, hnd, hnl, hrs, he, hp, h1, h2, hin1, hin2, hl1, hl2, hlet, hsg, hone, hm, hpow, q⟩ := h
    have hu64 := hu64_of hr
    have hsh := hgood.short hrs
    refine ⟨_, (pss_cons (ps_expr (pe_call G_look_at_tongue (hr.mono (by decide)) (by rfl) T.g_look_at_tongue T.F_look_at_tongue.kp T.b_look_at_tongue .nil pass0 (pa_cons (pv 0) (pa_cons (pe_lst (pa_cons (pv 1) (pa_cons (pv 2) pa_nil))) pa_nil))))
 (pss_cons (ps_set (i := 4) sc_parting_word.nd rfl (Or.inl rfl) (pe_lst (pa_cons (pe_tup (pa_cons pe_str (pa_cons (pe_lst (pa_cons (pe_callTy (T := "list") (r := Evl.rListS K) call_list_of (by rfl) T.list_ (by decide +kernel) (pa_cons (pv 1) pa_nil)) (pa_cons (pe_callTy (T := "list") (r := Evl.rListS K) call_list_of (by rfl) T.list_ (by decide +kernel) (pa_cons (pv 2) pa_nil)) pa_nil))) pa_nil))) pa_nil)))
 (pss_cons (ps_for PassesOwn.never rfl (pi_range1 (by rfl) T.range (pa_cons (pe_op op_add (pv 3) pe_int) pa_nil)) (pg_name (i := 5) sc_parting_word.nd rfl (Or.inl rfl))
 (pss_cons (ps_for PassesOwn.never rfl (pi_list (pv 4)) (pg_tup (by rfl) (pgs_cons (pg_name (i := 6) sc_parting_word.nd rfl (Or.inl rfl)) (pgs_cons (pg_name (i := 7) sc_parting_word.nd rfl (Or.inl rfl)) pgs_nil)))
 (pss_one (ps_if (pt_cmpR op_ne (pe_cmpR (r := rEqP K) (op_eqP hu64) (pe_ix (r := rIxL K) ix_list (pv 7) pe_int (fun _ _ => rfl)) (pe_lst pa_nil) (nomark _)) (pe_cmpR (r := rEqP K) (op_eqP hu64) (pe_ix (r := rIxL K) ix_list (pv 7) pe_int (fun _ _ => rfl)) (pe_lst pa_nil) (nomark _)) (nomark _)) (pss_one (ps_ret (pv 6))) pss_nil)))
 (pss_one (ps_set (i := 4) sc_parting_word.nd rfl (Or.inl rfl) (pe_call G_pairs_behind (hr.mono (by decide)) (by rfl) T.g_pairs_behind T.F_pairs_behind.kp T.b_pairs_behind .nil pass0 (pa_cons (pv 0) (pa_cons (pe_lc (own := [("word", 6), ("pair", 7)]) (g := gTup K 2 (gCons (gName 6) (gCons (gName 7) gNil))) (by rfl) sc_parting_word.nd (pi_list (pv 4)) (blkOk_by (own := [("word", 6), ("pair", 7)]) (N := ["grammar", "one", "other", "most", "layer", "many", "word", "pair"]) (sc := defScope s_parting_word) (by decide +kernel)) (fun _ _ _ _ _ => (pg_tup (by rfl) (pgs_cons (pg_name (i := 6) sc_parting_word.nd rfl (Or.inl rfl)) (pgs_cons (pg_name (i := 7) sc_parting_word.nd rfl (Or.inl rfl)) pgs_nil)))) (fun _ _ _ _ _ => pts_one (pt_cmpR (r := rNeP K) (op_neP hu64) (pe_ix (r := rIxL K) ix_list (pv 7) pe_int (fun _ _ => rfl)) (pe_ix (r := rIxL K) ix_list (pv 7) pe_int (fun _ _ => rfl)) (nomark _))) (fun _ _ _ _ _ => (pe_tup (pa_cons (pv 6) (pa_cons (pv 7) pa_nil))))) pa_nil)))))))
 (pss_one (ps_ret pe_non))))), ?_⟩
    refine ⟨_, rfl, _, rfl, _, rfl, sl2 (by show 2 ≤ 1000000; decide), fun l hl => ?_⟩
    have sml := same_new hl (o := .lst [.ref a1, .ref a2])
    refine ⟨g, l, names, rs, [a1, a2], [one, other], rfl, G.same sml, hnd, hnl, hgood.hin, hsh, he, hp, upd_same, .cons ⟨sml _ _ h1, hin1⟩ (.cons ⟨sml _ _ h2, hin2⟩ .nil), fun H1 sm1 => ?_⟩
    have sm01 := sml.trans sm1
    refine ⟨_, rfl, a1, _, rfl, .inl (SqL.of (sm01 _ _ h1)), fun b1 hb1 => ?_⟩
    have smb1 := same_new hb1 (o := .lst (one.map V.str))
    refine ⟨_, rfl, a2, _, rfl, .inl (SqL.of (smb1 _ _ (sm01 _ _ h2))), fun b2 hb2 => ?_⟩
    have smb2 := same_new hb2 (o := .lst (other.map V.str))
    refine ⟨sl2 (by show 2 ≤ 1000000; decide), fun pa hpa => ?_⟩
    have smpa := same_new hpa (o := .lst [.ref b1, .ref b2])
    refine ⟨sl2 (by show 2 ≤ 1000000; decide), fun u hu => ?_⟩
    have smu := same_new hu (o := .tup [.str "", .ref pa])
    refine ⟨sl2 (by show 1 ≤ 1000000; decide), fun L hL => ?_⟩
    have smL := same_new hL (o := .lst [.ref u])
    have smX := smb2.trans (smpa.trans (smu.trans smL))
    have hp0 : Paired (EntAt (upd (upd (upd (upd (upd H1 b1 (.lst (one.map V.str))) b2 (.lst (other.map V.str))) pa (.lst [.ref b1, .ref b2])) u (.tup [.str "", .ref pa])) L (.lst [.ref u]))) [u] (layQ rs sg (some one, some other) 0) :=
      .cons ⟨pa, .ref b1, .ref b2, smL _ _ upd_same, (smu.trans smL) _ _ upd_same, .inr ⟨b1, one, rfl, rfl, smX _ _ upd_same⟩, .inr ⟨b2, other, rfl, rfl, (smpa.trans (smu.trans smL)) _ _ upd_same⟩⟩ .nil
    have hLL : (upd (upd (upd (upd (upd H1 b1 (.lst (one.map V.str))) b2 (.lst (other.map V.str))) pa (.lst [.ref b1, .ref b2])) u (.tup [.str "", .ref pa])) L (.lst [.ref u])) L = some (.lst ([u].map V.ref)) := upd_same
    have sm02 := sm01.trans (smb1.trans smX)
    generalize (upd (upd (upd (upd (upd H1 b1 (.lst (one.map V.str))) b2 (.lst (other.map V.str))) pa (.lst [.ref b1, .ref b2])) u (.tup [.str "", .ref pa])) L (.lst [.ref u])) = H2 at hp0 hLL sm02 ⊢
    clear smX smL smu smpa smb2 smb1 sm01 sm1 sml hL hu hpa hb2 hb1 hl
    have hok := layQ_ok (p := (some one, some other)) (k := 1000) hgood hone ⟨fun r e => by obtain rfl := Option.some.inj e; exact ⟨hin1, hl1⟩, fun r e => by obtain rfl := Option.some.inj e; exact ⟨hin2, hl2⟩⟩
    have hlen := layQ_len rs sg (some one, some other)
    generalize hlay : layQ rs sg (some one, some other) = lay at q hok hlen hp0
    have hnext : ∀ i, lay (i + 1) = behindP rs sg ((lay i).filter neP) := fun i => by rw [← hlay]; rfl
    refine ⟨_, rfl, _, _, rfl, rfl, _, rfl, by omega, by omega, ?_⟩
    have en : ((m : Int) + 1).toNat = m + 1 := by omega
    rw [en]
    refine for_range (fun i σ' H' => ∃ (L : Addr) (us : List Addr) (x5 x6 x7 : Option V), σ' = [some (.ref g), some (.ref a1), some (.ref a2), some (.int m), some (.ref L), x5, x6, x7] ∧ Same H H' ∧ H' L = some (.lst (us.map V.ref)) ∧ Paired (EntAt H') us (lay i) ∧ firstL lay i = none) ?_ ?_ ?_
    · exact ⟨L, [u], _, _, _, rfl, sm02, hLL, hp0, rfl⟩
    · rintro i σ' H3 him ⟨L, us, x5, x6, x7, rfl, sm3, hL3, hp3, hno⟩
      have hli : (lay i).length ≤ 20000 := Nat.le_trans (hlen i) (hpow i (by omega))
      refine ⟨_, rfl, L, rfl, ⟨_, SqL.of hL3⟩, for_list (K := K) (a := L) (xs := us.map V.ref) (fun j σ' H' => ∃ (x6 x7 : Option V), σ' = [some (.ref g), some (.ref a1), some (.ref a2), some (.int m), some (.ref L), some (.int (0 + (i : Int))), x6, x7] ∧ Same H3 H' ∧ ((lay i).take j).find? (fun e => partsP e.2) = none) ?_ ?_ ?_ ?_⟩
      · exact ⟨_, _, rfl, Same.refl _, rfl⟩
      · rintro j σ' H' _ ⟨_, _, rfl, sm, _⟩
        exact SqL.of (sm _ _ hL3)
      · rintro j x σ' H4 hj ⟨x6, x7, rfl, sm4, hno4⟩
        obtain ⟨u0, hui, rfl⟩ := map_at hj
        obtain ⟨e, he1, pa, v1, v2, hu0, hpa, ho1, ho2⟩ := paired_get hp3 hui
        refine ⟨u0, _, rfl, SqT.of (sm4 _ _ hu0), rfl, _, _, rfl, _, _, rfl, rfl, ?_⟩
        refine ⟨_, rfl, pa, _, _, _, rfl, rfl, SqL.of (sm4 _ _ hpa), rfl, Nat.zero_le _, fun e1 he1' => ?_⟩
        have sme1 := same_new he1' (o := .lst [])
        have sm5 := sm4.trans sme1
        refine ⟨eRO _, eRO (some []), dp_RO (ho1.same sm5), .lst (SqL.of upd_same) .nil, Nat.le_trans (dep_RO _) (by decide), ?_⟩
        refine ⟨_, rfl, pa, _, _, _, rfl, rfl, SqL.of (sm5 _ _ hpa), rfl, Nat.zero_le _, fun e2 he2 => ?_⟩
        have sme2 := same_new he2 (o := .lst [])
        have sm6 := sm5.trans sme2
        refine ⟨eRO _, eRO (some []), dp_RO (ho2.same sm6), .lst (SqL.of upd_same) .nil, Nat.le_trans (dep_RO _) (by decide), rfl, _, rfl, ?_⟩
        rw [enc_RO, enc_RO]
        have eb : (!decide (V.bl (decide (e.2.1 = some [])) = V.bl (decide (e.2.2 = some [])))) = partsP e.2 := by
          unfold partsP
          cases decide (e.2.1 = some []) <;> cases decide (e.2.2 = some []) <;> rfl
        rw [eb]
        have efs : ((lay i).take (j + 1)).find? (fun e => partsP e.2) = if partsP e.2 = true then some e else none := by
          rw [take_snoc he1, List.find?_append, hno4, List.find?_cons, List.find?_nil]
          cases partsP e.2 <;> rfl
        refine iteB (fun hc => ?_) (fun hc => ?_)
        · rw [if_pos hc] at efs
          have ef : (lay i).find? (fun e => partsP e.2) = some e := by
            rw [← List.take_append_drop (j + 1) (lay i), List.find?_append, efs]
            rfl
          have e3 : firstL lay (i + 1) = some e.1 := by rw [firstL_snoc, hno, ef]; rfl
          obtain ⟨d, ed⟩ : ∃ d, m + 1 = i + 1 + d := ⟨m - i, by omega⟩
          have := firstL_more e3 d
          rw [← ed] at this
          rw [this] at q
          exact ⟨_, rfl, q _ (sm3.trans sm6)⟩
        · rw [if_neg (by rw [hc]; exact Bool.false_ne_true)] at efs
          exact ⟨_, _, rfl, sm6, efs⟩
      · rintro σ' H4 ⟨x6, x7, rfl, sm4, hno4⟩
        rw [List.length_map, paired_len hp3, List.take_length] at hno4
        have hno5 : firstL lay (i + 1) = none := by rw [firstL_snoc, hno, hno4]; rfl
        refine ⟨_, rfl, _, rfl, L, rfl, ⟨_, SqL.of (sm4 _ _ hL3)⟩, fun D hD => lc_list (K := K) (a := L) (xs := us.map V.ref) (fun k H' => Same H4 H' ∧ ∃ zs : List Addr, H' D = some (.lst (zs.map V.ref)) ∧ Paired (fun z (e : EntP) => ∃ pa v1 v2, H' z = some (.tup [.str e.1, .ref pa]) ∧ H4 pa = some (.lst [v1, v2]) ∧ RowO H4 v1 e.2.1 ∧ RowO H4 v2 e.2.2) zs (((lay i).take k).filter neP)) ?_ ?_ ?_ ?_⟩
        · exact ⟨same_new hD, [], upd_same, .nil⟩
        · rintro k H' _ ⟨sm, _⟩
          exact SqL.of (sm _ _ (sm4 _ _ hL3))
        · rintro k x H5 hk ⟨sm5, zs, hzs, hzp⟩
          obtain ⟨u0, hui, rfl⟩ := map_at hk
          obtain ⟨e, he1, pa, v1, v2, hu0, hpa, ho1, ho2⟩ := paired_get hp3 hui
          have sm45 := sm4.trans sm5
          refine ⟨u0, _, rfl, SqT.of (sm45 _ _ hu0), rfl, _, _, rfl, _, _, rfl, rfl, rfl, ?_⟩
          refine ⟨_, rfl, pa, _, _, _, rfl, rfl, SqL.of (sm45 _ _ hpa), rfl, ?_⟩
          refine ⟨_, rfl, pa, _, _, _, rfl, rfl, SqL.of (sm45 _ _ hpa), rfl, ?_⟩
          refine ⟨eRO _, eRO _, dp_RO (ho1.same sm45), dp_RO (ho2.same sm45), Nat.le_trans (dep_RO _) (by decide), _, rfl, ?_⟩
          rw [enc_RO]
          have eb : (!decide (e.2.1 = e.2.2)) = neP e := by
            unfold neP
            by_cases c : e.2.1 = e.2.2
            · rw [decide_eq_true c, decide_eq_false (fun z => z c)]; rfl
            · rw [decide_eq_false c, decide_eq_true c]; rfl
          rw [eb, take_snoc he1, filter_snocP]
          refine iteB (fun hc => ?_) (fun hc => ?_)
          · rw [if_pos hc]
            refine ⟨_, rfl, _, rfl, sl2 (by show 2 ≤ 1000000; decide), fun z hz => ?_⟩
            have smz := same_new hz (o := .tup [.str e.1, .ref pa])
            have h6 := smz _ _ hzs
            have nzD : z ≠ D := fun y => by rw [y, hzs] at hz; cases hz
            refine ⟨_, h6, ?_, same_mut (sm5.trans smz) hD, zs ++ [z], by rw [upd_same, List.map_append]; rfl, ?_⟩
            · rw [List.length_map, paired_len hzp]
              have h8 := List.length_filter_le neP ((lay i).take k)
              rw [List.length_take] at h8
              exact sl1 (by omega)
            · refine paired_app (F := fun z' (e' : EntP) => ∃ pb w1 w2, (upd (upd H5 z (.tup [.str e.1, .ref pa])) D (.lst (zs.map V.ref ++ [V.ref z]))) z' = some (.tup [.str e'.1, .ref pb]) ∧ H4 pb = some (.lst [w1, w2]) ∧ RowO H4 w1 e'.2.1 ∧ RowO H4 w2 e'.2.2) ?_ ?_
              · exact ⟨pa, v1, v2, by rw [upd_ne nzD, upd_same], sm4 _ _ hpa, ho1.same sm4, ho2.same sm4⟩
              · exact Paired.mapP hzp fun z' e' ⟨pb, w1, w2, b1, b2, b3, b4⟩ => ⟨pb, w1, w2, by rw [upd_ne (ne_of (smz _ _ b1) h6 fun z => by cases z)]; exact smz _ _ b1, b2, b3, b4⟩
          · rw [if_neg (by rw [hc]; exact Bool.false_ne_true)]
            exact ⟨sm5, zs, hzs, hzp⟩
        rintro H5 ⟨sm5, zs, hzs, hzp⟩
        rw [List.length_map, paired_len hp3, List.take_length] at hzp
        have hfl := List.length_filter_le neP (lay i)
        have hpw := hpow (i + 1) (by omega)
        have hmul : ((lay i).filter neP).length * sg.length ≤ 200000 := by
          have h8 := Nat.mul_le_mul_right sg.length (Nat.le_trans hfl (hlen i))
          exact Nat.le_trans h8 (Nat.le_trans hpw (by decide))
        refine ⟨g, D, zs, (lay i).filter neP, sg, names, rs, rfl, G.same (sm3.trans (sm4.trans sm5)), hzs, Paired.mapP hzp fun _ _ ⟨pa, v1, v2, b1, b2, b3, b4⟩ => ⟨pa, v1, v2, b1, sm5 _ _ b2, b3.same sm5, b4.same sm5⟩, hsh, hlet, hsg, hone, fun e h => (hok i e (List.mem_filter.mp h).1).mono (Nat.le_refl _) (by omega), hmul, fun F H6 sm6 hF => ?_⟩
        obtain ⟨ws, hF6, hpF⟩ := hF
        rw [← hnext] at hpF
        exact ⟨F, ws, _, _, _, rfl, sm3.trans (sm4.trans (sm5.trans sm6)), hF6, hpF, hno5⟩
    · rintro σ' H3 ⟨L, us, x5, x6, x7, rfl, sm3, _, _, hno⟩
      rw [hno] at q
      exact q H3 sm3
end
end SG
namespace SG
open PySem PySem.Spec PyProof.Rows L2
section
variable {P : Program} {w : World} {K : PySem.W.Frag} {mg : Str → Option Value} {base : Heap} {A : Ad}
def sp_walk : Sp := fun vs H Q _ => ∃ (ru a : Addr) (z : Str) (rs : List Rule) (row : List Str), vs = [.ref ru, .ref a, .str z] ∧ TriosAt H ru rs ∧ ShortR rs ∧ H a = some (.lst (row.map V.str)) ∧ row.length ≤ 100000 ∧ z.length ≤ 90 ∧ ∀ v H', Same H H' → RowO H' v (byLs rs (some row) z) → (∀ y, v = .ref y → y = a ∨ H y = none) → Q v H'
theorem ok__law_walk (T : Txt K mg A) : FnOk P w K mg base CX0 1 A.a__law_walk A.d__law_walk ["_law_rules_here", "_law_row", "_law_word"] sp_walk := by
  refine T.F__law_walk.ok sc__law_walk (fun vs H Q E h => ?_) (fun cdv A0 outer s0 H vs Q E hr h => ?_)
  · obtain ⟨_, _, _, _, _, rfl, _⟩ := h
    rfl
  · obtain ⟨ru, a, z, rs, row, rfl, ⟨ts, hts, htp⟩, hsh, ha, hrl, hz, q⟩ := h
    have hu64 := hu64_of hr
    have htl : ts.length = rs.length := paired_len htp
    have hrs : rs.length ≤ 100 := hsh.1
    refine ⟨_, (pss_cons (ps_for PassesOwn.never rfl (pi_str (pv 2)) (pg_name (i := 3) sc__law_walk.nd rfl (Or.inr rfl))
 (pss_cons (ps_setLc (i := 4) (own := [("_law_name", 5), ("_law_by", 6), ("_law_more", 7)]) (g := gTup K 3 (gCons (gName 5) (gCons (gName 6) (gCons (gName 7) gNil)))) (by rfl) sc__law_walk.nd rfl rfl (sw_true rfl rfl rfl (by decide +kernel)) (pi_list (pv 0)) (blkOk_by (own := [("_law_name", 5), ("_law_by", 6), ("_law_more", 7)]) (N := ["_law_rules_here", "_law_row", "_law_word", "_law_letter", "_law_some", "_law_name", "_law_by", "_law_more"]) (sc := defScope s__law_walk) (by decide +kernel)) (fun _ _ _ _ _ => (pg_tup (by rfl) (pgs_cons (pg_name (i := 5) sc__law_walk.nd rfl (Or.inl rfl)) (pgs_cons (pg_name (i := 6) sc__law_walk.nd rfl (Or.inl rfl)) (pgs_cons (pg_name (i := 7) sc__law_walk.nd rfl (Or.inl rfl)) pgs_nil))))) (fun _ _ _ _ _ => pts_one (PW.pt (pw_and (pt_cmpR (r := rNeP K) (op_neP hu64) (pv 1) (pe_lst pa_nil) (nomark _)) (pw_and (pt_cmpR op_eq (pv 5) (pe_ix (r := rIxL K) ix_list (pv 1) pe_int (fun _ _ => rfl)) (nomark _)) (pw_and1 (pt_cmpR op_eq (pv 6) (pv 3) (nomark _))))))) (fun _ _ _ _ _ => (pe_op op_cat (pv 7) (pe_slice (r := rSlL K) sl_list (pv 1) (po_some pe_int) po_none))))
 (pss_cons (ps_if (pt_cmpR (r := rEqP K) (op_eqP hu64) (pv 4) (pe_lst pa_nil) (nomark _)) (pss_one (ps_ret pe_non)) pss_nil)
 (pss_one (ps_set (i := 1) sc__law_walk.nd rfl (Or.inr rfl) (pe_ix (r := rIxL K) ix_list (pv 4) pe_int (fun _ _ => rfl)))))))
 (pss_one (ps_ret (pv 1)))), ?_⟩
    refine ⟨_, rfl, z, rfl, for_it (walk_str (z := z)) (fun i σ' H' => ∃ (b : Addr) (r : List Str) (x3 x4 : Option V), σ' = [some (.ref ru), some (.ref b), some (.str z), x3, x4, none, none, none] ∧ Same H H' ∧ H' b = some (.lst (r.map V.str)) ∧ ((signsOf z).take i).foldl (stepL rs) (some row) = some r ∧ r.length ≤ 100000 + 1000 * i ∧ (b = a ∨ H b = none)) ?_ ?_ ?_ ?_⟩
    · exact ⟨a, row, _, _, rfl, Same.refl _, ha, rfl, hrl, .inl rfl⟩
    · intro _ _ _ _ _
      trivial
    · rintro i x σ' H0 H1 hi ⟨b, r, x3, x4, rfl, sm, hb, hf, hl, hba⟩ ⟨rfl, c, hc, rfl⟩
      have hi90 : i < 90 := by
        have : z.length = z.cps.size := rfl
        omega
      have e_ : ((signsOf z).take (i + 1)).foldl (stepL rs) (some row) = stepL rs (some r) ⟨#[c]⟩ := by
        rw [take_snoc (signs_at hc), List.foldl_append, hf]
        rfl
      refine ⟨_, rfl, ru, rfl, ⟨_, SqL.of (sm _ _ hts)⟩, fun D hD => lc_list (K := K) (a := ru) (xs := ts.map V.ref) (fun j H' => Same H1 H' ∧ ∃ us : List Addr, H' D = some (.lst (us.map V.ref)) ∧ Paired (fun u (r' : List Str) => u ≠ D ∧ H' u = some (.lst (r'.map V.str))) us (someL (rs.take j) r ⟨#[c]⟩) ∧ ∀ u ∈ us, H u = none) ?_ ?_ ?_ ?_⟩
      · refine ⟨same_new hD, [], upd_same, ?_, fun u h => (nomatch h)⟩
        rw [List.take_zero]
        cases r <;> exact .nil
      · rintro j H' _ ⟨sm2, _⟩
        exact SqL.of (sm2 _ _ (sm _ _ hts))
      · rintro j x H' hj ⟨sm2, us, hus, hup, hfr⟩
        obtain ⟨t, ht, rfl⟩ := map_at hj
        obtain ⟨q1, hq1, w0, hw1, hw2⟩ := paired_get htp ht
        have hq3 := hsh.2 q1 (List.mem_of_getElem? hq1)
        have sm02 := sm.trans sm2
        have hul : us.length ≤ 100 := by
          rw [paired_len hup]
          have := someL_len (rs.take j) r ⟨#[c]⟩
          rw [List.length_take] at this
          omega
        refine ⟨t, _, rfl, SqT.of (sm02 _ _ hw1), rfl, _, _, rfl, _, _, rfl, _, _, rfl, rfl, rfl, ?_⟩
        refine ⟨_, rfl, Nat.zero_le _, fun e he => ?_⟩
        have sme := same_new he (o := .lst [])
        have hbe := sme _ _ (sm2 _ _ hb)
        refine ⟨eSs r, eSs [], dp_Ss hbe, .lst (SqL.of upd_same) .nil, Nat.le_trans (dep_Ss _) (by decide), _, rfl, ?_⟩
        rw [enc_Ss]
        have neD : e ≠ D := fun z => by rw [z, hus] at he; cases he
        have husE := sme _ _ hus
        have hupE : Paired (fun u (r' : List Str) => u ≠ D ∧ (upd H' e (.lst [])) u = some (.lst (r'.map V.str))) us (someL (rs.take j) r ⟨#[c]⟩) := Paired.mapP hup fun _ _ ⟨h1, h2⟩ => ⟨h1, sme _ _ h2⟩
        have sm2E := sm2.trans sme
        generalize (upd H' e (.lst [])) = H2 at sm2E husE hupE hbe ⊢
        clear sme neD he hus hup sm2 sm02
        have sm02 := sm.trans sm2E
        rw [take_snoc hq1]
        cases r with
        | nil =>
          refine iteNE (decide_eq_true rfl) ?_
          exact ⟨sm2E, us, husE, hupE, hfr⟩
        | cons n t' =>
          refine itePos (by simp) ?_
          refine ⟨_, rfl, _, rfl, _, _, _, _, rfl, rfl, SqL.of hbe, atI_nat (j := 0) rfl, rfl, _, rfl, iteB (fun h1 => ?_) (fun h1 => ?_)⟩
          · have e1 : q1.1 = n := V.str.inj (of_decide_eq_true h1)
            refine ⟨_, rfl, _, rfl, rfl, _, rfl, iteB (fun h2 => ?_) (fun h2 => ?_)⟩
            · have e2 : q1.2.1 = ⟨#[c]⟩ := V.str.inj (of_decide_eq_true h2)
              rw [someL_yes t' e1 e2]
              refine ⟨_, rfl, _, rfl, _, rfl, b, _, rfl, SqL.of hbe, fun d hd => ?_⟩
              have ec : cutV ((n :: t').map V.str) (some (1 : Int)) none = t'.map V.str := by
                rw [show (1 : Int) = ((1 : Nat) : Int) from rfl, cut_ge]; rfl
              rw [ec]
              have smc := same_new hd (o := .lst (t'.map V.str))
              have ht' : t'.length ≤ 200000 := by
                rw [List.length_cons] at hl
                omega
              refine ⟨w0, d, _, _, rfl, rfl, smc _ _ ((sm02) _ _ hw2), upd_same, by rw [List.length_map, List.length_map]; exact sl2 (by omega), fun w hw => ?_⟩
              have smw := same_new hw (o := .lst (q1.2.2.map V.str ++ t'.map V.str))
              have smA := smc.trans smw
              have nwD : w ≠ D := fun z => by rw [z, smc _ _ husE] at hw; cases hw
              refine ⟨_, smA _ _ husE, by rw [List.length_map]; exact sl1 (by omega), same_mut (sm2E.trans smA) hD, us ++ [w], by rw [upd_same, List.map_append]; rfl, ?_, fun u hu => by
                rcases List.mem_append.mp hu with hu | hu
                · exact hfr u hu
                · rw [List.mem_singleton.mp hu]; exact sm02.free (smc.free hw)⟩
              refine paired_app (F := fun u (r' : List Str) => u ≠ D ∧ (upd (upd (upd H2 d (.lst (t'.map V.str))) w (.lst (q1.2.2.map V.str ++ t'.map V.str))) D (.lst (us.map V.ref ++ [.ref w]))) u = some (.lst (r'.map V.str))) ⟨nwD, ?_⟩ (Paired.mapP hupE fun u r' ⟨h5, h6⟩ => ⟨h5, ?_⟩)
              · rw [upd_ne nwD, upd_same, List.map_append]
              · rw [upd_ne h5]; exact smA _ _ h6
            · rw [someL_no t' (fun z => of_decide_eq_false h2 (by rw [z.2]))]
              exact ⟨sm2E, us, husE, hupE, hfr⟩
          · rw [someL_no t' (fun z => of_decide_eq_false h1 (by rw [z.1]))]
            exact ⟨sm2E, us, husE, hupE, hfr⟩
      rintro H2 ⟨sm2, us, hus, hup, hfr⟩
      rw [List.length_map, htl, List.take_length] at hup
      have hup2 : Paired (fun u (r' : List Str) => H2 u = some (.lst (r'.map V.str))) us (someL rs r ⟨#[c]⟩) := Paired.mapP hup fun _ _ h => h.2
      have hst := someL_step rs r ⟨#[c]⟩
      have hll := someL_len rs r ⟨#[c]⟩
      have hb2 := sm2 _ _ hb
      refine ⟨_, rfl, Nat.zero_le _, fun e he => ?_⟩
      have sme := same_new he (o := .lst [])
      refine ⟨eL eSs (someL rs r ⟨#[c]⟩), eL eSs [], dp_lists (sme _ _ hus) (Paired.mapP hup2 fun _ _ h => sme _ _ h), .lst (SqL.of upd_same) .nil, Nat.le_trans (dep_Rows _) (by decide), _, rfl, ?_⟩
      rw [enc_Rows]
      have smA := sm.trans (sm2.trans sme)
      refine iteB (fun h1 => ?_) (fun h1 => ?_)
      · have e0 : someL rs r ⟨#[c]⟩ = [] := of_decide_eq_true h1
        rw [e0] at hst
        exact q _ _ smA (.inl ⟨rfl, byLs_dead hf hc hst⟩) (fun y h => by cases h)
      · have e0 : ¬ someL rs r ⟨#[c]⟩ = [] := of_decide_eq_false h1
        generalize someL rs r ⟨#[c]⟩ = ys at hup2 hst e0 hll
        cases hup2 with
        | nil => exact absurd rfl e0
        | @cons u0 r0 us' ys' h5 t5 =>
          refine ⟨_, rfl, _, _, _, _, rfl, rfl, SqL.of (sme _ _ hus), atI_nat (j := 0) rfl, ?_⟩
          refine ⟨u0, r0, _, _, rfl, smA, sme _ _ h5, ?_, ?_, .inr (hfr u0 List.mem_cons_self)⟩
          · rw [e_]; exact hst
          · have := stepL_len hsh (o := some r) (c := ⟨#[c]⟩) (k := 100000 + 1000 * i) (fun r' e => by rw [← Option.some.inj e]; exact hl) r0 hst
            omega
    · rintro σ' H1 ⟨b, r, x3, x4, rfl, sm, hb, hf, hl, hba⟩
      have e : (signsOf z).take z.cps.size = signsOf z := by
        have := signs_len z
        rw [show z.length = z.cps.size from rfl] at this
        rw [← this, List.take_length]
      rw [e] at hf
      exact ⟨_, rfl, q _ _ sm (.inr ⟨b, r, rfl, hf, hb⟩) (fun y h => by obtain rfl := V.ref.inj h; exact hba)⟩
end
section
variable {P : Program} {w : World} {K : PySem.W.Frag} {mg : Str → Option Value} {base : Heap} {A : Ad}
def EntT (H : Hp) (u : Addr) (e : EntP) : Prop := ∃ v1 v2, H u = some (.tup [.str e.1, v1, v2]) ∧ RowO H v1 e.2.1 ∧ RowO H v2 e.2.2
def EntTF (F : Addr) (H : Hp) (u : Addr) (e : EntP) : Prop := ∃ v1 v2, v1 ≠ V.ref F ∧ v2 ≠ V.ref F ∧ H u = some (.tup [.str e.1, v1, v2]) ∧ RowO H v1 e.2.1 ∧ RowO H v2 e.2.2
theorem RowO.mutF {H : Hp} {F : Addr} {v : V} {o : Row?} (h : RowO H v o) (n : v ≠ .ref F) (u : HO) : RowO (upd H F u) v o := by
  rcases h with h | ⟨a, row, h1, h2, h3⟩
  · exact .inl h
  · exact .inr ⟨a, row, h1, h2, by rw [upd_ne (fun z => n (by rw [h1, z]))]; exact h3⟩
theorem EntTF.same {F : Addr} {H H' : Hp} (e : Same H H') {u : Addr} {x : EntP} (h : EntTF F H u x) : EntTF F H' u x := let ⟨v1, v2, n2, n3, a, c, d⟩ := h; ⟨v1, v2, n2, n3, e _ _ a, c.same e, d.same e⟩
theorem EntTF.mutL {F : Addr} {H : Hp} {l : List V} (hF : H F = some (.lst l)) (o : HO) {u : Addr} {x : EntP} (h : EntTF F H u x) : EntTF F (upd H F o) u x := by
  obtain ⟨v1, v2, n2, n3, a, c, d⟩ := h
  exact ⟨v1, v2, n2, n3, by rw [upd_ne (ne_of a hF fun z => by cases z)]; exact a, c.mutF n2 _, d.mutF n3 _⟩
def sp_due (K : PySem.W.Frag) : Sp := fun vs H Q _ => ∃ (ru a1 a2 sa : Addr) (m : Nat) (names signs : List Str) (rs : List Rule) (one other : List Str), vs = [.ref ru, .ref a1, .ref a2, .ref sa, .int m] ∧ TriosAt H ru rs ∧ GoodR names rs ∧ rs.length ≤ 100 ∧
  H a1 = some (.lst (one.map V.str)) ∧ H a2 = some (.lst (other.map V.str)) ∧ (∀ x ∈ one, x ∈ names) ∧ (∀ x ∈ other, x ∈ names) ∧ one.length ≤ 1000 ∧ other.length ≤ 1000 ∧ H sa = some (.lst (signs.map V.str)) ∧ signs.length ≤ 26 ∧ (∀ c ∈ signs, c.length = 1) ∧ m ≤ 50 ∧ (∀ i, i ≤ m + 1 → signs.length ^ i ≤ 20000) ∧
  ∀ H', Same H H' → Q (optT (firstL (layF rs (ssort signs) (some one, some other)) (m + 1))) H'
theorem ok__law_due (T : Txt K mg A) : FnOk P w K mg base CX0 2 A.a__law_due A.d__law_due ["_law_rules_here", "_law_one_here", "_law_other", "_law_signs_here", "_law_most"] (sp_due K) := by
  have G__law_walk : FnOk P w K mg base CX0 1 A.a__law_walk A.d__law_walk ["_law_rules_here", "_law_row", "_law_word"] sp_walk := ok__law_walk T
  refine T.F__law_due.ok sc__law_due (fun vs H Q E h => ?_) (fun cdv A0 outer s0 H vs Q E hr h => ?_)
  · obtain ⟨_, _, _, _, _, _, _, _, _, _, rfl, _⟩ := h
    rfl
  · obtain ⟨ru, a1, a2, sa, m, names, signs, rs, one, other, rfl, htr, hgood, hrs, h1, h2, hin1, hin2, hl1, hl2, hsa, hsg, hone, hm, hpow, q⟩ := h
    have hu64 := hu64_of hr
    have hsh := hgood.short hrs
    refine ⟨_, (pss_cons (ps_set (i := 5) sc__law_due.nd rfl (Or.inl rfl) (pe_lst (pa_cons (pe_tup (pa_cons pe_str (pa_cons (pv 1) (pa_cons (pv 2) pa_nil)))) pa_nil)))
 (pss_cons (ps_for PassesOwn.never rfl (pi_range1 (by rfl) T.range (pa_cons (pe_op op_add (pv 4) pe_int) pa_nil)) (pg_name (i := 6) sc__law_due.nd rfl (Or.inl rfl))
 (pss_cons (ps_for PassesOwn.never rfl (pi_list (pv 5)) (pg_tup (by rfl) (pgs_cons (pg_name (i := 7) sc__law_due.nd rfl (Or.inl rfl)) (pgs_cons (pg_name (i := 8) sc__law_due.nd rfl (Or.inl rfl)) (pgs_cons (pg_name (i := 9) sc__law_due.nd rfl (Or.inl rfl)) pgs_nil))))
 (pss_one (ps_if (pt_cmpR op_ne (pe_cmpR (r := rEqP K) (op_eqP hu64) (pv 8) (pe_lst pa_nil) (nomark _)) (pe_cmpR (r := rEqP K) (op_eqP hu64) (pv 9) (pe_lst pa_nil) (nomark _)) (nomark _)) (pss_one (ps_ret (pv 7))) pss_nil)))
 (pss_cons (ps_set (i := 10) sc__law_due.nd rfl (Or.inl rfl) (pe_lst pa_nil))
 (pss_cons (ps_for PassesOwn.never rfl (pi_list (pv 5)) (pg_tup (by rfl) (pgs_cons (pg_name (i := 7) sc__law_due.nd rfl (Or.inl rfl)) (pgs_cons (pg_name (i := 8) sc__law_due.nd rfl (Or.inl rfl)) (pgs_cons (pg_name (i := 9) sc__law_due.nd rfl (Or.inl rfl)) pgs_nil))))
 (pss_one (ps_for PassesOwn.never rfl (pi_list (pe_callB (id := "sorted") (r := rSortedG K) (cr_sortedG hu64) (by rfl) T.sorted (by decide +kernel) (pa_cons (pv 3) pa_nil))) (pg_name (i := 11) sc__law_due.nd rfl (Or.inr rfl))
 (pss_cons (ps_setLc (i := 12) (own := [("_law_row", 13)]) (g := gName 13) (by rfl) sc__law_due.nd rfl rfl (sw_true rfl rfl rfl (by decide +kernel)) (pi_tup (pe_tup (pa_cons (pv 8) (pa_cons (pv 9) pa_nil)))) (blkOk_by (own := [("_law_row", 13)]) (N := ["_law_rules_here", "_law_one_here", "_law_other", "_law_signs_here", "_law_most", "_law_layer", "_law_many", "_law_word", "_law_first", "_law_second", "_law_behind", "_law_letter", "_law_some", "_law_row"]) (sc := defScope s__law_due) (by decide +kernel)) (fun _ _ _ _ _ => (pg_name (i := 13) sc__law_due.nd rfl (Or.inl rfl))) (fun _ _ _ _ _ => pts_nil) (fun _ _ _ _ _ => (pe_ifExp (pt_cmpR op_isN (pv 13) pe_non (nomark _)) (pv 13) (pe_call G__law_walk (hr.mono (by decide)) (by rfl) T.g__law_walk T.F__law_walk.kp T.b__law_walk .nil pass0 (pa_cons (pv 0) (pa_cons (pv 13) (pa_cons (pv 11) pa_nil)))))))
 (pss_one (ps_if (pt_cmpR (r := rNeP K) (op_neP hu64) (pv 12) (pe_lst (pa_cons pe_non (pa_cons pe_non pa_nil))) (nomark _)) (pss_one (ps_expr (pe_bm PySem.F.plainAttrs_list PySem.F.slot_list_append PySem.F.type_list_append mt_append (pv 10) (pa_cons (pe_tup (pa_cons (pe_op op_add_str (pv 7) (pv 11)) (pa_cons (pe_ix (r := rIxL K) ix_list (pv 12) pe_int (fun _ _ => rfl)) (pa_cons (pe_ix (r := rIxL K) ix_list (pv 12) pe_int (fun _ _ => rfl)) pa_nil)))) pa_nil)))) pss_nil))))))
 (pss_one (ps_set (i := 5) sc__law_due.nd rfl (Or.inl rfl) (pv 10)))))))
 (pss_one (ps_ret pe_non)))), ?_⟩
    refine ⟨_, rfl, _, rfl, sl2 (by show 3 ≤ 1000000; decide), fun u hu => ?_⟩
    have smu := same_new hu (o := .tup [.str "", .ref a1, .ref a2])
    refine ⟨sl2 (by show 1 ≤ 1000000; decide), fun L hL => ?_⟩
    have smL := same_new hL (o := .lst [.ref u])
    have sm02 := smu.trans smL
    have hp0 : Paired (EntT (upd (upd H u (.tup [.str "", .ref a1, .ref a2])) L (.lst [.ref u]))) [u] (layF rs (ssort signs) (some one, some other) 0) :=
      .cons ⟨.ref a1, .ref a2, smL _ _ upd_same, .inr ⟨a1, one, rfl, rfl, sm02 _ _ h1⟩, .inr ⟨a2, other, rfl, rfl, sm02 _ _ h2⟩⟩ .nil
    have hLL : (upd (upd H u (.tup [.str "", .ref a1, .ref a2])) L (.lst [.ref u])) L = some (.lst ([u].map V.ref)) := upd_same
    generalize (upd (upd H u (.tup [.str "", .ref a1, .ref a2])) L (.lst [.ref u])) = H2 at hp0 hLL sm02 ⊢
    clear smL smu hL hu
    have hone' : ∀ c ∈ ssort signs, c.length = 1 := fun c hc => hone c ((ssort_perm signs).mem_iff.mp hc)
    have hok := layF_ok (p := (some one, some other)) (k := 1000) hgood hone' ⟨fun r e => by obtain rfl := Option.some.inj e; exact ⟨hin1, hl1⟩, fun r e => by obtain rfl := Option.some.inj e; exact ⟨hin2, hl2⟩⟩
    have hlen := layF_len rs (ssort signs) (some one, some other)
    rw [ssort_len] at hlen
    generalize hlay : layF rs (ssort signs) (some one, some other) = lay at q hok hlen hp0
    have hnext : ∀ i, lay (i + 1) = (lay i).flatMap (nextP rs (ssort signs)) := fun i => by rw [← hlay]; rfl
    refine ⟨_, rfl, _, _, rfl, rfl, _, rfl, by omega, by omega, ?_⟩
    have en : ((m : Int) + 1).toNat = m + 1 := by omega
    rw [en]
    refine for_range (fun i σ' H' => ∃ (L : Addr) (us : List Addr) (x6 x7 x8 x9 x10 x11 x12 : Option V), σ' = [some (.ref ru), some (.ref a1), some (.ref a2), some (.ref sa), some (.int m), some (.ref L), x6, x7, x8, x9, x10, x11, x12, none] ∧ Same H H' ∧ H' L = some (.lst (us.map V.ref)) ∧ Paired (EntT H') us (lay i) ∧ firstL lay i = none) ?_ ?_ ?_
    · exact ⟨L, [u], _, _, _, _, _, _, _, rfl, sm02, hLL, hp0, rfl⟩
    · rintro i σ' H3 him ⟨L, us, x6, x7, x8, x9, x10, x11, x12, rfl, sm3, hL3, hp3, hno⟩
      have hli : (lay i).length ≤ 20000 := Nat.le_trans (hlen i) (hpow i (by omega))
      have hlj : (lay (i + 1)).length ≤ 20000 := Nat.le_trans (hlen (i + 1)) (hpow (i + 1) (by omega))
      refine ⟨_, rfl, L, rfl, ⟨_, SqL.of hL3⟩, for_list (K := K) (a := L) (xs := us.map V.ref) (fun j σ' H' => ∃ (x7 x8 x9 : Option V), σ' = [some (.ref ru), some (.ref a1), some (.ref a2), some (.ref sa), some (.int m), some (.ref L), some (.int (0 + (i : Int))), x7, x8, x9, x10, x11, x12, none] ∧ Same H3 H' ∧ ((lay i).take j).find? (fun e => partsP e.2) = none) ?_ ?_ ?_ ?_⟩
      · exact ⟨_, _, _, rfl, Same.refl _, rfl⟩
      · rintro j σ' H' _ ⟨_, _, _, rfl, sm, _⟩
        exact SqL.of (sm _ _ hL3)
      · rintro j x σ' H4 hj ⟨x7, x8, x9, rfl, sm4, hno4⟩
        obtain ⟨u0, hui, rfl⟩ := map_at hj
        obtain ⟨e, he1, v1, v2, hu0, ho1, ho2⟩ := paired_get hp3 hui
        refine ⟨u0, _, rfl, SqT.of (sm4 _ _ hu0), rfl, _, _, rfl, _, _, rfl, _, _, rfl, rfl, ?_⟩
        refine ⟨_, rfl, Nat.zero_le _, fun e1 he1' => ?_⟩
        have sme1 := same_new he1' (o := .lst [])
        have sm5 := sm4.trans sme1
        refine ⟨eRO _, eRO (some []), dp_RO (ho1.same sm5), .lst (SqL.of upd_same) .nil, Nat.le_trans (dep_RO _) (by decide), ?_⟩
        refine ⟨_, rfl, Nat.zero_le _, fun e2 he2 => ?_⟩
        have sme2 := same_new he2 (o := .lst [])
        have sm6 := sm5.trans sme2
        refine ⟨eRO _, eRO (some []), dp_RO (ho2.same sm6), .lst (SqL.of upd_same) .nil, Nat.le_trans (dep_RO _) (by decide), rfl, _, rfl, ?_⟩
        rw [enc_RO, enc_RO]
        have eb : (!decide (V.bl (decide (e.2.1 = some [])) = V.bl (decide (e.2.2 = some [])))) = partsP e.2 := by
          unfold partsP
          cases decide (e.2.1 = some []) <;> cases decide (e.2.2 = some []) <;> rfl
        rw [eb]
        have efs : ((lay i).take (j + 1)).find? (fun e => partsP e.2) = if partsP e.2 = true then some e else none := by
          rw [take_snoc he1, List.find?_append, hno4, List.find?_cons, List.find?_nil]
          cases partsP e.2 <;> rfl
        refine iteB (fun hc => ?_) (fun hc => ?_)
        · rw [if_pos hc] at efs
          have ef : (lay i).find? (fun e => partsP e.2) = some e := by
            rw [← List.take_append_drop (j + 1) (lay i), List.find?_append, efs]
            rfl
          have e3 : firstL lay (i + 1) = some e.1 := by rw [firstL_snoc, hno, ef]; rfl
          obtain ⟨d, ed⟩ : ∃ d, m + 1 = i + 1 + d := ⟨m - i, by omega⟩
          have := firstL_more e3 d
          rw [← ed] at this
          rw [this] at q
          exact ⟨_, rfl, q _ (sm3.trans sm6)⟩
        · rw [if_neg (by rw [hc]; exact Bool.false_ne_true)] at efs
          exact ⟨_, _, _, rfl, sm6, efs⟩
      · rintro σ' H4 ⟨x7, x8, x9, rfl, sm4, hno4⟩
        rw [List.length_map, paired_len hp3, List.take_length] at hno4
        have hno5 : firstL lay (i + 1) = none := by rw [firstL_snoc, hno, hno4]; rfl
        have sm04 := sm3.trans sm4
        have hL4 := sm4 _ _ hL3
        have hp4 : Paired (EntT H4) us (lay i) := Paired.mapP hp3 fun _ _ ⟨v1, v2, b1, b3, b4⟩ => ⟨v1, v2, sm4 _ _ b1, b3.same sm4, b4.same sm4⟩
        refine ⟨Nat.zero_le _, fun F hF => ?_⟩
        have smF := same_new hF (o := .lst [])
        have hFF : (upd H4 F (.lst [])) F = some (.lst (([] : List Addr).map V.ref)) := upd_same
        refine ⟨_, rfl, L, rfl, ⟨_, SqL.of (smF _ _ hL4)⟩, for_list (K := K) (a := L) (xs := us.map V.ref) (fun j σ' H' => ∃ (x7 x8 x9 x11 x12 : Option V) (ws : List Addr), σ' = [some (.ref ru), some (.ref a1), some (.ref a2), some (.ref sa), some (.int m), some (.ref L), some (.int (0 + (i : Int))), x7, x8, x9, some (.ref F), x11, x12, none] ∧ Same H4 H' ∧ H' F = some (.lst (ws.map V.ref)) ∧ Paired (EntTF F H') ws (((lay i).take j).flatMap (nextP rs (ssort signs)))) ?_ ?_ ?_ ?_⟩
        · exact ⟨_, _, _, _, _, [], rfl, smF, hFF, .nil⟩
        · rintro j σ' H' _ ⟨_, _, _, _, _, _, rfl, sm, _⟩
          exact SqL.of (sm _ _ hL4)
        · rintro j x σ' H5 hj ⟨x7, x8, x9, x11, x12, ws, rfl, sm5, hF5, hp5⟩
          obtain ⟨u0, hui, rfl⟩ := map_at hj
          obtain ⟨e, he1, v1, v2, hu0, ho1, ho2⟩ := paired_get hp4 hui
          have hme := List.mem_of_getElem? he1
          obtain ⟨hel, hek1, hek2⟩ := hok i e hme
          have e1 : ((lay i).take (j + 1)).flatMap (nextP rs (ssort signs)) = ((lay i).take j).flatMap (nextP rs (ssort signs)) ++ nextP rs (ssort signs) e := by
            rw [take_snoc he1, List.flatMap_append]
            simp
          rw [e1]
          have hdl : (((lay i).take j).flatMap (nextP rs (ssort signs))).length ≤ 20000 := by
            rw [hnext] at hlj
            refine Nat.le_trans ?_ hlj
            rw [← List.take_append_drop j (lay i), List.flatMap_append, List.length_append, List.take_append_drop]
            exact Nat.le_add_right _ _
          generalize ((lay i).take j).flatMap (nextP rs (ssort signs)) = done at hp5 hdl ⊢
          have vF : ∀ {v : V} {o : Row?}, RowO H4 v o → v ≠ .ref F := fun {v o} h z => by
            rcases h with ⟨rfl, _⟩ | ⟨a, r, rfl, _, h⟩
            · cases z
            · rw [V.ref.inj z, hF] at h; cases h
          refine ⟨u0, _, rfl, SqT.of (sm5 _ _ hu0), rfl, _, _, rfl, _, _, rfl, _, _, rfl, rfl, ?_⟩
          refine ⟨_, rfl, Str, PyData.str, sa, _, signs, rfl, SqL.of ((sm04.trans sm5) _ _ hsa), dpAll_strs _, alk_str, srt_str, fun _ _ => Nat.zero_le _, fun zs so hz1 hz2 hso => ?_⟩
          rw [srt_strs_out hz1 hz2]
          have sms := same_new hso (o := .lst ((ssort signs).map V.str))
          have hss : (upd H5 so (.lst ((ssort signs).map V.str))) so = some (.lst ((ssort signs).map V.str)) := upd_same
          have nsF : so ≠ F := fun z => by rw [z, hF5] at hso; cases hso
          have hfl := List.length_filter_le (stepsP rs e.2) (ssort signs)
          rw [ssort_len] at hfl
          refine ⟨so, rfl, ⟨_, SqL.of hss⟩, for_list (K := K) (a := so) (xs := (ssort signs).map V.str) (fun k σ' H' => ∃ (x11 x12 : Option V) (ws : List Addr), σ' = [some (.ref ru), some (.ref a1), some (.ref a2), some (.ref sa), some (.int m), some (.ref L), some (.int (0 + (i : Int))), some (.str e.1), some v1, some v2, some (.ref F), x11, x12, none] ∧ Same H4 H' ∧ H' so = some (.lst ((ssort signs).map V.str)) ∧ H' F = some (.lst (ws.map V.ref)) ∧ Paired (EntTF F H') ws (done ++ (((ssort signs).take k).filter (stepsP rs e.2)).map fun c => (e.1 ++ c, stepP rs e.2 c))) ?_ ?_ ?_ ?_⟩
          · refine ⟨_, _, ws, rfl, sm5.trans sms, hss, sms _ _ hF5, ?_⟩
            rw [List.take_zero, List.filter_nil, List.map_nil, List.append_nil]
            exact Paired.mapP hp5 fun _ _ h => h.same sms
          · rintro k σ' H' _ ⟨_, _, _, rfl, _, h, _⟩
            exact SqL.of h
          · rintro k x σ' H6 hk ⟨x11, x12, ws, rfl, sm6, hso6, hF6, hp6⟩
            obtain ⟨c, hc, rfl⟩ := map_at hk
            have hcl := hone' c (List.mem_of_getElem? hc)
            have hpr : Paired (fun v o => RowO H4 v o ∧ RowK names 100000 o) [v1, v2] [e.2.1, e.2.2] := .cons ⟨ho1, fun r h => ⟨(hek1 r h).1, by have := (hek1 r h).2; omega⟩⟩ (.cons ⟨ho2, fun r h => ⟨(hek2 r h).1, by have := (hek2 r h).2; omega⟩⟩ .nil)
            refine ⟨_, rfl, _, rfl, sl2 (by show 2 ≤ 1000000; decide), fun tp htp => ?_⟩
            have smt := same_new htp (o := .tup [v1, v2])
            have htt : (upd H6 tp (.tup [v1, v2])) tp = some (.tup [v1, v2]) := upd_same
            have sm7 := sm6.trans smt
            have hF7 := smt _ _ hF6
            have hso7 := smt _ _ hso6
            have hp7 := Paired.mapP hp6 fun _ _ h => EntTF.same smt h
            generalize (upd H6 tp (.tup [v1, v2])) = H7 at htt sm7 hF7 hso7 hp7 ⊢
            clear hp6 hF6 hso6 smt htp sm6
            refine ⟨tp, rfl, ⟨_, SqT.of htt⟩, fun B hB => lc_tup (K := K) (a := tp) (xs := [v1, v2]) (fun k H' => Same H7 H' ∧ ∃ zs : List V, H' B = some (.lst zs) ∧ zs.length = k ∧ Paired (fun z o => RowO H' z (stepL rs o c) ∧ z ≠ .ref F ∧ z ≠ .ref B) zs ([e.2.1, e.2.2].take k)) ?_ ?_ ?_ ?_⟩
            · exact ⟨same_new hB, [], upd_same, rfl, .nil⟩
            · rintro k H' _ ⟨sm, _⟩
              exact SqT.of (sm _ _ htt)
            · rintro k v H8 hk ⟨sm8, zs, hzs, hzl, hzp⟩
              obtain ⟨o, ho, hro, hrk⟩ := paired_get hpr hk
              have hk2 : k < 2 := (List.getElem?_eq_some_iff.mp hk).1
              have hBF8 := sm8 _ _ hF7
              refine ⟨rfl, tyes (iteT ?_)⟩
              rcases hro with ⟨rfl, rfl⟩ | ⟨b, row, rfl, rfl, hb⟩
              · refine ⟨_, rfl, rfl, _, rfl, itePos (decide_eq_true rfl) ?_⟩
                refine ⟨_, rfl, _, hzs, by exact sl1 (by omega), same_mut sm8 hB, zs ++ [.non], upd_same, by rw [List.length_append, hzl]; rfl, ?_⟩
                rw [take_snoc ho]
                exact paired_app (F := fun z' o => RowO (upd H8 B (.lst (zs ++ [V.non]))) z' (stepL rs o c) ∧ z' ≠ .ref F ∧ z' ≠ .ref B) ⟨.inl ⟨rfl, rfl⟩, fun z => (by cases z), fun z => (by cases z)⟩ (Paired.mapP hzp fun _ _ ⟨a, b, d⟩ => ⟨a.mutF d _, b, d⟩)
              · refine ⟨_, rfl, rfl, _, rfl, iteNEG (decide_eq_false fun z => (by cases z)) ?_⟩
                have hb8 := (sm7.trans sm8) _ _ hb
                obtain ⟨ts, hts, htp⟩ := htr
                have sm08 := sm04.trans (sm7.trans sm8)
                refine ⟨_, rfl, _, rfl, _, rfl, ru, b, c, rs, row, rfl, ⟨ts, sm08 _ _ hts, Paired.mapP htp fun _ _ ⟨x, h3, h4⟩ => ⟨x, sm08 _ _ h3, sm08 _ _ h4⟩⟩, hsh, hb8, (hrk _ rfl).2, by omega, fun z H9 sm9 hz hzf => ?_⟩
                have e3 : byLs rs (some row) c = stepL rs (some row) c := by
                  unfold byLs
                  rw [signs_one hcl]
                  rfl
                rw [e3] at hz
                have nz : ∀ y : Addr, (∃ o, H8 y = some o) → b ≠ y → z ≠ .ref y := fun y ⟨o, hy⟩ nb q => by
                  rcases hzf y q with h | h
                  · exact nb h.symm
                  · rw [hy] at h; cases h
                have nbF : b ≠ F := fun z => by rw [z, hF] at hb; cases hb
                have nbB : b ≠ B := fun z => by have := sm7 _ _ hb; rw [z, hB] at this; cases this
                have nzF := nz F ⟨_, hBF8⟩ nbF
                have nzB := nz B ⟨_, hzs⟩ nbB
                have h9 := sm9 _ _ hzs
                refine ⟨_, h9, by exact sl1 (by omega), same_mut (sm8.trans sm9) hB, zs ++ [z], upd_same, by rw [List.length_append, hzl]; rfl, ?_⟩
                rw [take_snoc ho]
                exact paired_app (F := fun z' o => RowO (upd H9 B (.lst (zs ++ [z]))) z' (stepL rs o c) ∧ z' ≠ .ref F ∧ z' ≠ .ref B) ⟨hz.mutF nzB _, nzF, nzB⟩ (Paired.mapP hzp fun _ _ ⟨a, b, d⟩ => ⟨(a.same sm9).mutF d _, b, d⟩)
            rintro H8 ⟨sm8, zs, hzs, _, hzp⟩
            have e3 : [e.2.1, e.2.2].take [v1, v2].length = [e.2.1, e.2.2] := rfl
            rw [e3] at hzp
            obtain ⟨z1, z2, rfl, ⟨hz1, hn1, _⟩, ⟨hz2, hn2, _⟩⟩ : ∃ z1 z2, zs = [z1, z2] ∧ (RowO H8 z1 (stepL rs e.2.1 c) ∧ z1 ≠ .ref F ∧ z1 ≠ .ref B) ∧ (RowO H8 z2 (stepL rs e.2.2 c) ∧ z2 ≠ .ref F ∧ z2 ≠ .ref B) := by
              cases hzp with
              | cons a hzp => cases hzp with
                | cons b hzp => cases hzp with
                  | nil => exact ⟨_, _, rfl, a, b⟩
            have sm48 := sm7.trans sm8
            have hF8 := sm8 _ _ hF7
            refine ⟨_, rfl, sl2 (by show 2 ≤ 1000000; decide), fun nn hnn => ?_⟩
            have smn := same_new hnn (o := .lst [.non, .non])
            have hd1 : Dp K (upd H8 nn (.lst [.non, .non])) (.ref B) (eL eRO [stepL rs e.2.1 c, stepL rs e.2.2 c]) := .lst (SqL.of (smn _ _ hzs)) (.cons (dp_RO (hz1.same smn)) (.cons (dp_RO (hz2.same smn)) .nil))
            have hd2 : Dp K (upd H8 nn (.lst [.non, .non])) (.ref nn) (eL eRO [none, none]) := .lst (SqL.of upd_same) (.cons .non (.cons .non .nil))
            refine ⟨_, _, hd1, hd2, Nat.le_trans (dep_L dep_RO _) (by decide), _, rfl, ?_⟩
            rw [enc_L enc_RO]
            have eb : (!decide ([stepL rs e.2.1 c, stepL rs e.2.2 c] = [none, none])) = stepsP rs e.2 c := by
              unfold stepsP stepP
              by_cases c1 : stepL rs e.2.1 c = none <;> by_cases c2 : stepL rs e.2.2 c = none <;> simp [c1, c2]
            rw [eb, take_snoc hc, filter_snocP]
            have sm49 := sm48.trans smn
            have hF9 := smn _ _ hF8
            have hso9 := (sm8.trans smn) _ _ hso7
            have hp9 : Paired (EntTF F (upd H8 nn (.lst [.non, .non]))) ws (done ++ (((ssort signs).take k).filter (stepsP rs e.2)).map fun c => (e.1 ++ c, stepP rs e.2 c)) := Paired.mapP hp7 fun _ _ h => h.same (sm8.trans smn)
            have hB9 := smn _ _ hzs
            have hz19 := hz1.same smn
            have hz29 := hz2.same smn
            generalize (upd H8 nn (.lst [.non, .non])) = H9 at sm49 hF9 hso9 hp9 hB9 hz19 hz29 ⊢
            refine iteB (fun h5 => ?_) (fun h5 => ?_)
            · rw [if_pos h5, List.map_append, ← List.append_assoc]
              refine ⟨_, rfl, .inl ⟨rfl, _, SqL.of hF9⟩, _, rfl, _, rfl, _, _, rfl, rfl, by rw [sizeLine_eq]; omega, ?_⟩
              refine ⟨_, rfl, B, _, _, _, rfl, rfl, SqL.of hB9, rfl, ?_⟩
              refine ⟨_, rfl, B, _, _, _, rfl, rfl, SqL.of hB9, rfl, ?_⟩
              refine ⟨sl2 (by show 3 ≤ 1000000; decide), fun u hu => ?_⟩
              have smu := same_new hu (o := .tup [.str (e.1 ++ c), z1, z2])
              have h10 := smu _ _ hF9
              have huu : (upd H9 u (.tup [.str (e.1 ++ c), z1, z2])) u = some (.tup [.str (e.1 ++ c), z1, z2]) := upd_same
              refine ⟨F, _, _, rfl, rfl, h10, ?_, ?_⟩
              · rw [List.length_map, paired_len hp9, List.length_append, List.length_map]
                have h8 := List.length_filter_le (stepsP rs e.2) ((ssort signs).take k)
                rw [List.length_take] at h8
                rw [ssort_len] at h8
                exact sl1 (by omega)
              · have hent : EntTF F (upd H9 u (.tup [.str (e.1 ++ c), z1, z2])) u (e.1 ++ c, stepP rs e.2 c) := ⟨z1, z2, hn1, hn2, huu, hz19.same smu, hz29.same smu⟩
                refine ⟨_, _, ws ++ [u], rfl, same_mut (sm49.trans smu) hF, by rw [upd_ne nsF]; exact smu _ _ hso9, by rw [upd_same, List.map_append]; rfl, ?_⟩
                exact paired_app (F := EntTF F (upd (upd H9 u (.tup [.str (e.1 ++ c), z1, z2])) F (.lst (ws.map V.ref ++ [V.ref u])))) (hent.mutL h10 _) (Paired.mapP hp9 fun _ _ h => (h.same smu).mutL h10 _)
            · rw [if_neg (by rw [h5]; exact Bool.false_ne_true)]
              exact ⟨_, _, ws, rfl, sm49, hso9, hF9, hp9⟩
          · rintro σ' H6 ⟨x11, x12, ws, rfl, sm6, hso6, hF6, hp6⟩
            rw [List.length_map, List.take_length] at hp6
            exact ⟨_, _, _, _, _, ws, rfl, sm6, hF6, hp6⟩
        · rintro σ' H5 ⟨x7, x8, x9, x11, x12, ws, rfl, sm5, hF5, hp5⟩
          rw [List.length_map, paired_len hp4, List.take_length, ← hnext] at hp5
          exact ⟨_, rfl, F, ws, _, _, _, _, _, _, _, rfl, sm04.trans sm5, hF5, Paired.mapP hp5 fun _ _ ⟨v1, v2, _, _, b1, b2, b3⟩ => ⟨v1, v2, b1, b2, b3⟩, hno5⟩
    · rintro σ' H3 ⟨L, us, x6, x7, x8, x9, x10, x11, x12, rfl, sm3, _, _, hno⟩
      rw [hno] at q
      exact q H3 sm3
end
end SG
namespace SG
open PySem PySem.Spec PyProof.Rows L2
section
variable {P : Program} {w : World} {K : PySem.W.Frag} {mg : Str → Option Value} {base : Heap} {A : Ad}
theorem TriosAt.same' {H H' : Hp} {l : Addr} {rs : List Rule} (h : TriosAt H l rs) (e : Same H H') : TriosAt H' l rs := by
  obtain ⟨ts, h1, h2⟩ := h
  exact ⟨ts, e _ _ h1, Paired.mapP h2 fun _ _ ⟨x, h3, h4⟩ => ⟨x, e _ _ h3, e _ _ h4⟩⟩
def sp_of : Sp := fun vs H Q _ => ∃ (ru : Addr) (n : Str) (rs : List Rule), vs = [.ref ru, .str n] ∧ TriosAt H ru rs ∧ rs.length ≤ 100 ∧ ∀ q H' (ts : List Addr), Same H H' → H' q = some (.lst (ts.map V.ref)) → Paired (RuleAt H') ts (rulesOf rs n) → Q (.ref q) H'
theorem ok__law_of (T : Txt K mg A) : FnOk P w K mg base CX0 1 A.a__law_of A.d__law_of ["_law_rules_here", "_law_name"] sp_of := by
  refine T.F__law_of.ok sc__law_of (fun vs H Q E h => ?_) (fun cdv A0 outer s0 H vs Q E hr h => ?_)
  · obtain ⟨_, _, _, rfl, _⟩ := h
    rfl
  · obtain ⟨ru, n, rs, rfl, ⟨ts, hts, htp⟩, hrs, q⟩ := h
    refine ⟨_, (pss_one (ps_ret (pe_lc (own := [("_law_one_here", 2), ("_law_letter", 3), ("_law_row", 4)]) (g := gTup K 3 (gCons (gName 2) (gCons (gName 3) (gCons (gName 4) gNil)))) (by rfl) sc__law_of.nd (pi_list (pv 0)) (blkOk_by (own := [("_law_one_here", 2), ("_law_letter", 3), ("_law_row", 4)]) (N := ["_law_rules_here", "_law_name", "_law_one_here", "_law_letter", "_law_row"]) (sc := defScope s__law_of) (by decide +kernel)) (fun _ _ _ _ _ => (pg_tup (by rfl) (pgs_cons (pg_name (i := 2) sc__law_of.nd rfl (Or.inl rfl)) (pgs_cons (pg_name (i := 3) sc__law_of.nd rfl (Or.inl rfl)) (pgs_cons (pg_name (i := 4) sc__law_of.nd rfl (Or.inl rfl)) pgs_nil))))) (fun _ _ _ _ _ => pts_one (pt_cmpR op_eq (pv 2) (pv 1) (nomark _))) (fun _ _ _ _ _ => (pe_tup (pa_cons (pv 3) (pa_cons (pv 4) pa_nil))))))), ?_⟩
    refine ⟨_, rfl, ru, rfl, ⟨_, SqL.of hts⟩, fun D hD => lc_list (K := K) (a := ru) (xs := ts.map V.ref) (fun k H' => Same H H' ∧ ∃ zs : List Addr, H' D = some (.lst (zs.map V.ref)) ∧ Paired (fun z (p : Step) => ∃ w, H' z = some (.tup [.str p.1, .ref w]) ∧ H w = some (.lst (p.2.map V.str))) zs (rulesOf (rs.take k) n)) ?_ ?_ ?_ ?_⟩
    · exact ⟨same_new hD, [], upd_same, .nil⟩
    · rintro k H' _ ⟨sm, _⟩
      exact SqL.of (sm _ _ hts)
    · rintro k x H2 hk ⟨sm2, zs, hzs, hzp⟩
      obtain ⟨u0, hui, rfl⟩ := map_at hk
      obtain ⟨r, hr1, w2, hw1, hw2⟩ := paired_get htp hui
      refine ⟨u0, _, rfl, SqT.of (sm2 _ _ hw1), rfl, _, _, rfl, _, _, rfl, _, _, rfl, rfl, rfl, ?_⟩
      refine ⟨_, rfl, _, rfl, rfl, _, rfl, ?_⟩
      rw [take_snoc hr1, rulesOf_snoc]
      refine iteB (fun h5 => ?_) (fun h5 => ?_)
      · have e1 : r.1 = n := V.str.inj (of_decide_eq_true h5)
        rw [if_pos e1]
        refine ⟨_, rfl, _, rfl, sl2 (by show 2 ≤ 1000000; decide), fun z hz => ?_⟩
        have smz := same_new hz (o := .tup [.str r.2.1, .ref w2])
        have h6 := smz _ _ hzs
        have nzD : z ≠ D := fun y => by rw [y, hzs] at hz; cases hz
        have hzl : zs.length ≤ 100 := by
          rw [paired_len hzp]
          have h8 := rulesOf_len (rs.take k) n
          rw [List.length_take] at h8
          omega
        refine ⟨_, h6, by rw [List.length_map]; exact sl1 (by omega), same_mut (sm2.trans smz) hD, zs ++ [z], by rw [upd_same, List.map_append]; rfl, ?_⟩
        refine paired_app (F := fun z' (p : Step) => ∃ w, (upd (upd H2 z (.tup [.str r.2.1, .ref w2])) D (.lst (zs.map V.ref ++ [V.ref z]))) z' = some (.tup [.str p.1, .ref w]) ∧ H w = some (.lst (p.2.map V.str))) ⟨w2, by rw [upd_ne nzD, upd_same], hw2⟩ (Paired.mapP hzp fun z' p ⟨w3, b1, b2⟩ => ⟨w3, by rw [upd_ne (ne_of (smz _ _ b1) h6 fun z => by cases z)]; exact smz _ _ b1, b2⟩)
      · rw [if_neg (fun z => of_decide_eq_false h5 (by rw [z]))]
        exact ⟨sm2, zs, hzs, hzp⟩
    rintro H2 ⟨sm2, zs, hzs, hzp⟩
    rw [List.length_map, paired_len htp, List.take_length] at hzp
    exact q D H2 zs sm2 hzs (Paired.mapP hzp fun _ _ ⟨w3, b1, b2⟩ => ⟨w3, b1, sm2 _ _ b2⟩)
theorem set_same {α : Type} : ∀ {l : List α} {i : Nat} {x : α}, l[i]? = some x → l.set i x = l
  | [], _, _, h => by simp at h
  | a :: l, 0, x, h => by
    have : a = x := by simpa using h
    rw [this]
    rfl
  | a :: l, i + 1, x, h => by
    rw [List.set_cons_succ, set_same (l := l) (by simpa using h)]
theorem But.cellN {s p : Addr} {H H1 : Hp} (a : But s H H1) (hp : H p = none) (o : HO) : But s H (upd H1 p o) := a.cell hp o
theorem WellAt.mutN {H : Hp} {s D : Addr} {k : Nat} (h : WellAt H s k) (n : s ≠ D) (o : HO) : WellAt (upd H D o) s k := by
  obtain ⟨a, b, c, h1, h2⟩ := h
  exact ⟨a, b, c, by rw [upd_ne n]; exact h1, h2⟩
def TrioX (D : Addr) (H : Hp) (u : Addr) (r : Rule) : Prop := ∃ w, w ≠ D ∧ H u = some (.tup [.str r.1, .str r.2.1, .ref w]) ∧ H w = some (.lst (r.2.2.map V.str))
theorem TrioX.same {D : Addr} {H H' : Hp} (e : Same H H') {u : Addr} {r : Rule} (h : TrioX D H u r) : TrioX D H' u r := let ⟨w, a, b, c⟩ := h; ⟨w, a, e _ _ b, e _ _ c⟩
theorem TrioX.but {D s : Addr} {k : Nat} {H H' : Hp} (hw : WellAt H s k) (e : But s H H') {u : Addr} {r : Rule} (h : TrioX D H u r) : TrioX D H' u r := let ⟨w, a, b, c⟩ := h; ⟨w, a, e _ _ (hw.ne_tup b) b, e _ _ (hw.ne_strs c) c⟩
theorem TrioX.mutL {D : Addr} {H : Hp} {l : List V} (hD : H D = some (.lst l)) (o : HO) {u : Addr} {r : Rule} (h : TrioX D H u r) : TrioX D (upd H D o) u r := let ⟨w, a, b, c⟩ := h; ⟨w, a, by rw [upd_ne (ne_of b hD fun z => by cases z)]; exact b, by rw [upd_ne a]; exact c⟩
def sp_like : Sp := fun vs H Q _ => ∃ (s ru na : Addr) (kn : V) (n : Str) (k : Nat) (names bs : List Str) (rs : List Rule), vs = [.ref s, .ref ru, kn, .ref na, .str n] ∧ WellAt H s k ∧ k ≤ 100000 ∧ TriosAt H ru rs ∧ GoodR names rs ∧ EndsR names rs ∧ rs.length ≤ 100 ∧
  H na = some (.lst (bs.map V.str)) ∧ bs ≠ [] ∧ bs.length ≤ 1000 ∧ (∀ x ∈ bs, x ∈ names) ∧ ∀ q H' (new : List Rule), But s H H' → WellAt H' s (k + 10) → TriosAt H' q new → LikeR names bs rs n new → Q (.ref q) H'
theorem ok__law_like (T : Txt K mg A) : FnOk P w K mg base CX0 3 A.a__law_like A.d__law_like ["_law_well_here", "_law_rules_here", "_law_known", "_law_names_here", "_law_name"] sp_like := by
  have G__law_draw : FnOk P w K mg base CX0 1 A.a__law_draw A.d__law_draw ["_law_well_here", "_law_many"] sp_draw := ok__law_draw T
  have G__law_one : FnOk P w K mg base CX0 2 A.a__law_one A.d__law_one ["_law_well_here", "_law_some"] sp_one := ok__law_one T
  have G__law_of : FnOk P w K mg base CX0 1 A.a__law_of A.d__law_of ["_law_rules_here", "_law_name"] sp_of := ok__law_of T
  refine T.F__law_like.ok sc__law_like (fun vs H Q E h => ?_) (fun cdv A0 outer s0 H vs Q E hr h => ?_)
  · obtain ⟨_, _, _, _, _, _, _, _, _, rfl, _⟩ := h
    rfl
  · obtain ⟨s, ru, na, kn, n, k, names, bs, rs, rfl, hw, hk, htr, hgood, hends, hrs, hna, hb0, hbl, hbn, q⟩ := h
    have hsh := hgood.short hrs
    have hnas := hw.ne_strs hna
    have hb1 : 0 < (bs.map V.str).length := by rw [List.length_map]; exact List.length_pos_iff.mpr hb0
    refine ⟨_, (pss_cons (ps_set (i := 5) sc__law_like.nd rfl (Or.inl rfl) (pe_call G__law_one (hr.mono (by decide)) (by rfl) T.g__law_one T.F__law_one.kp T.b__law_one .nil pass0 (pa_cons (pv 0) (pa_cons (pv 3) pa_nil))))
 (pss_cons (ps_set (i := 6) sc__law_like.nd rfl (Or.inr rfl) (pe_slice (r := rSlL K) sl_list (pe_lst (pa_cons (pe_call G__law_one (hr.mono (by decide)) (by rfl) T.g__law_one T.F__law_one.kp T.b__law_one .nil pass0 (pa_cons (pv 0) (pa_cons (pv 3) pa_nil))) pa_nil)) po_none (po_some (pe_call G__law_draw (hr.mono (by decide)) (by rfl) T.g__law_draw T.F__law_draw.kp T.b__law_draw .nil pass0 (pa_cons (pv 0) (pa_cons pe_int pa_nil))))))
 (pss_cons (ps_set (i := 7) sc__law_like.nd rfl (Or.inl rfl) (pe_call G__law_of (hr.mono (by decide)) (by rfl) T.g__law_of T.F__law_of.kp T.b__law_of .nil pass0 (pa_cons (pv 1) (pa_cons (pv 5) pa_nil))))
 (Evl.pss_cut (ps_if (pt_cmpR op_gt (pe_op op_add (pe_callB (id := "max") (r := rMax K) (cr_max rfl) (by rfl) T.max (by decide +kernel) (pa_cons (pe_lc (own := [("_law_letter", 10), ("_law_row", 11)]) (g := gTup K 2 (gCons (gName 10) (gCons (gName 11) gNil))) (by rfl) sc__law_like.nd (pi_list (pv 7)) (blkOk_by (own := [("_law_letter", 10), ("_law_row", 11)]) (N := ["_law_well_here", "_law_rules_here", "_law_known", "_law_names_here", "_law_name", "_law_one_here", "_law_behind", "_law_mine", "_law_found", "_law_at", "_law_letter", "_law_row"]) (sc := defScope s__law_like) (by decide +kernel)) (fun _ _ _ _ _ => (pg_tup (by rfl) (pgs_cons (pg_name (i := 10) sc__law_like.nd rfl (Or.inl rfl)) (pgs_cons (pg_name (i := 11) sc__law_like.nd rfl (Or.inl rfl)) pgs_nil)))) (fun _ _ _ _ _ => pts_nil) (fun _ _ _ _ _ => (pe_callB (id := "len") (r := Evl.rLenS K) call_len_seq (by rfl) T.len (by decide +kernel) (pa_cons (pv 11) pa_nil)))) pa_nil)) (pe_callB (id := "len") (r := Evl.rLenS K) call_len_seq (by rfl) T.len (by decide +kernel) (pa_cons (pv 6) pa_nil))) pe_int (nomark _)) (pss_one (ps_set (i := 6) sc__law_like.nd rfl (Or.inr rfl) (pe_lst pa_nil))) pss_nil)
 (pss_cons (ps_setLc (i := 8) (own := [("_law_letter", 10), ("_law_row", 11)]) (g := gTup K 2 (gCons (gName 10) (gCons (gName 11) gNil))) (by rfl) sc__law_like.nd rfl rfl (sw_true rfl rfl rfl (by decide +kernel)) (pi_list (pv 7)) (blkOk_by (own := [("_law_letter", 10), ("_law_row", 11)]) (N := ["_law_well_here", "_law_rules_here", "_law_known", "_law_names_here", "_law_name", "_law_one_here", "_law_behind", "_law_mine", "_law_found", "_law_at", "_law_letter", "_law_row"]) (sc := defScope s__law_like) (by decide +kernel)) (fun _ _ _ _ _ => (pg_tup (by rfl) (pgs_cons (pg_name (i := 10) sc__law_like.nd rfl (Or.inl rfl)) (pgs_cons (pg_name (i := 11) sc__law_like.nd rfl (Or.inl rfl)) pgs_nil)))) (fun _ _ _ _ _ => pts_nil) (fun _ _ _ _ _ => (pe_tup (pa_cons (pv 4) (pa_cons (pv 10) (pa_cons (pe_op op_cat (pv 11) (pv 6)) pa_nil))))))
 (Evl.pss_cut (ps_if (pt_cmpR op_eq (pe_call G__law_draw (hr.mono (by decide)) (by rfl) T.g__law_draw T.F__law_draw.kp T.b__law_draw .nil pass0 (pa_cons (pv 0) (pa_cons pe_int pa_nil))) pe_int (nomark _)) (pss_cons (ps_set (i := 9) sc__law_like.nd rfl (Or.inl rfl) (pe_call G__law_draw (hr.mono (by decide)) (by rfl) T.g__law_draw T.F__law_draw.kp T.b__law_draw .nil pass0 (pa_cons (pv 0) (pa_cons (pe_callB (id := "len") (r := Evl.rLenS K) call_len_seq (by rfl) T.len (by decide +kernel) (pa_cons (pv 8) pa_nil)) pa_nil))))
 (pss_one (ps_asg (pe_tup (pa_cons (pv 4) (pa_cons (pe_ix (r := rIxT K) ix_tup (pe_ix (r := rIxL K) ix_list (pv 8) (pv 9) (fun _ _ => rfl)) pe_int (fun _ _ => rfl)) (pa_cons (pe_op op_cat (pe_slice (r := rSlL K) sl_list (pv 6) po_none (po_some pe_int)) (pe_slice (r := rSlL K) sl_list (pv 6) po_none (po_some pe_int))) pa_nil)))) (pg_sub (pv 8) (pv 9) set_list)))) pss_nil)
 (pss_one (ps_ret (pv 8))))))))), ?_⟩
    -- the one
    refine ⟨_, rfl, _, rfl, s, na, bs.map V.str, k, rfl, hw, by omega, hna, hnas, hb1, by rw [List.length_map]; omega, fun v H1 hv bt1 w1 => ?_⟩
    obtain ⟨o, ho, rfl⟩ := List.mem_map.mp hv
    -- behind
    refine ⟨_, rfl, _, rfl, s, na, bs.map V.str, _, rfl, w1, by omega, bt1 _ _ hnas hna, hnas, hb1, by rw [List.length_map]; omega, fun v2 H2 hv2 bt2 w2 => ?_⟩
    obtain ⟨o2, ho2, rfl⟩ := List.mem_map.mp hv2
    refine ⟨sl2 (by show 1 ≤ 1000000; decide), fun bl hbl2 => ?_⟩
    have smb := same_new hbl2 (o := .lst [.str o2])
    have w3 := w2.same smb
    have hbb : (upd H2 bl (.lst [.str o2])) bl = some (.lst [.str o2]) := upd_same
    have nbs : bl ≠ s := by
      obtain ⟨os, hos⟩ := w2.some
      exact (ne_of_none hos hbl2).symm
    refine ⟨_, rfl, s, _, _, rfl, w3, by omega, by decide, by decide, fun j H4 j0 j1 bt4 w4 => ?_⟩
    have hb4 := bt4 _ _ nbs hbb
    refine ⟨_, rfl, bl, _, rfl, SqL.of hb4, fun b0 hb00 => ?_⟩
    obtain ⟨beh, hbe, hbe1, hbin⟩ : ∃ beh : List Str, cutV [V.str o2] none (some j) = beh.map V.str ∧ beh.length ≤ 1 ∧ ∀ x ∈ beh, x ∈ bs := by
      rcases (show j = 0 ∨ j = 1 by omega) with rfl | rfl
      · exact ⟨[], rfl, Nat.zero_le _, fun x h => (nomatch h)⟩
      · exact ⟨[o2], rfl, Nat.le_refl _, fun x h => by rw [List.mem_singleton.mp h]; exact ho2⟩
    rw [hbe]
    have sm5 := same_new hb00 (o := .lst (beh.map V.str))
    have h5 : (upd H4 b0 (.lst (beh.map V.str))) b0 = some (.lst (beh.map V.str)) := upd_same
    have bt5 : But s H (upd H4 b0 (.lst (beh.map V.str))) := ((((bt1.trans bt2).same smb).trans bt4).same sm5)
    have w5 := w4.same sm5
    generalize (upd H4 b0 (.lst (beh.map V.str))) = H5 at h5 bt5 w5 ⊢
    clear sm5 hb00 hbe hb4 bt4 w4 nbs hbb w3 smb hbl2 w2 bt2 w1 bt1
    have htr5 := trios_but htr hw bt5
    -- mine
    refine ⟨_, rfl, _, rfl, ru, o, rs, rfl, htr5, hrs, fun mi H6 ts sm6 hmi hpm => ?_⟩
    have w6 := w5.same sm6
    have bt6 := bt5.same sm6
    have h6 := sm6 _ _ h5
    have hro := ends_rules hends (hbn o ho)
    have hfew := hgood.few o
    have htl : ts.length = (rulesOf rs o).length := paired_len hpm
    clear sm6 h5 bt5 w5 htr5
    refine ⟨fun σ' H' => ∃ (bh : Addr) (be : List Str), σ' = [some (.ref s), some (.ref ru), some kn, some (.ref na), some (.str n), some (.str o), some (.ref bh), some (.ref mi), none, none, none, none] ∧ Same H6 H' ∧ H' bh = some (.lst (be.map V.str)) ∧ be.length ≤ 1 ∧ (∀ x ∈ be, x ∈ bs) ∧ ∀ p ∈ rulesOf rs o, p.2.length + be.length ≤ 3, ?_, ?_⟩
    · refine ⟨_, rfl, mi, rfl, ⟨_, SqL.of hmi⟩, fun D hD => lc_list (K := K) (a := mi) (xs := ts.map V.ref) (fun i H' => Same H6 H' ∧ H' D = some (.lst ((((rulesOf rs o).take i).map fun p => (p.2.length : Int)).map V.int))) ?_ ?_ ?_ ?_⟩
      · exact ⟨same_new hD, upd_same⟩
      · rintro i H' _ ⟨sm, _⟩
        exact SqL.of (sm _ _ hmi)
      · rintro i x H7 hi ⟨sm7, h7⟩
        obtain ⟨u0, hui, rfl⟩ := map_at hi
        obtain ⟨r, hr1, w2, hw1, hw2⟩ := paired_get hpm hui
        refine ⟨u0, _, rfl, SqT.of (sm7 _ _ hw1), rfl, _, _, rfl, _, _, rfl, rfl, rfl, tyes (iteT ?_)⟩
        refine ⟨_, rfl, w2, _, rfl, .inl (SqL.of (sm7 _ _ hw2)), ?_⟩
        refine ⟨_, h7, ?_, same_mut sm7 hD, ?_⟩
        · rw [List.length_map, List.length_map, List.length_take]
          exact sl1 (by omega)
        · rw [upd_same, take_snoc hr1, List.map_append, List.map_append, List.length_map]
          rfl
      rintro H7 ⟨sm7, h7⟩
      rw [List.length_map, htl, List.take_length] at h7
      refine ⟨D, _, rfl, SqL.of h7, ?_, fun mx hm1 hm2 => ?_⟩
      · rw [List.length_map]
        exact List.length_pos_iff.mpr hro
      refine ⟨_, rfl, b0, _, rfl, .inl (SqL.of (sm7 _ _ h6)), _, _, rfl, rfl, _, _, rfl, rfl, _, rfl, ?_⟩
      refine iteB (fun hc => ?_) (fun hc => ?_)
      · refine ⟨Nat.zero_le _, fun b2 hb2 => ?_⟩
        refine ⟨b2, [], rfl, sm7.trans (same_new hb2), upd_same, Nat.zero_le _, fun x h => (nomatch h), fun p hp => ?_⟩
        have := (hgood.ok _ (mem_rulesOf.mp hp)).2.2.1
        exact this
      · refine ⟨b0, beh, rfl, sm7, sm7 _ _ h6, hbe1, hbin, fun p hp => ?_⟩
        have h8 := hm2 _ (List.mem_map_of_mem (f := fun p : Step => (p.2.length : Int)) hp)
        have h9 := of_decide_eq_false hc
        rw [List.length_map] at h9
        omega
    rintro σ' H7 ⟨bh, be, rfl, sm7, h7, hbe1, hbin, hb3⟩
    have w7 := w6.same sm7
    have bt7 := bt6.same sm7
    have hmi7 := sm7 _ _ hmi
    have hpm7 := Paired.mapP hpm fun _ _ ⟨x, b1, b2⟩ => (⟨x, sm7 _ _ b1, sm7 _ _ b2⟩ : RuleAt H7 _ _)
    clear sm7 h6 hpm hmi w6 bt6
    -- found
    let nw : Step → Rule := fun p => (n, p.1, p.2 ++ be)
    refine ⟨_, rfl, mi, rfl, ⟨_, SqL.of hmi7⟩, fun D hD => lc_list (K := K) (a := mi) (xs := ts.map V.ref) (fun i H' => Same H7 H' ∧ ∃ us : List Addr, H' D = some (.lst (us.map V.ref)) ∧ Paired (TrioX D H') us (((rulesOf rs o).take i).map nw)) ?_ ?_ ?_ ?_⟩
    · exact ⟨same_new hD, [], upd_same, .nil⟩
    · rintro i H' _ ⟨sm, _⟩
      exact SqL.of (sm _ _ hmi7)
    · rintro i x H8 hi ⟨sm8, us, hus, hup⟩
      obtain ⟨u0, hui, rfl⟩ := map_at hi
      obtain ⟨r, hr1, w2, hw1, hw2⟩ := paired_get hpm7 hui
      have hil := (List.getElem?_eq_some_iff.mp hr1).1
      have hmr := List.mem_of_getElem? hr1
      refine ⟨u0, _, rfl, SqT.of (sm8 _ _ hw1), rfl, _, _, rfl, _, _, rfl, rfl, rfl, tyes (iteT ?_)⟩
      refine ⟨_, rfl, _, rfl, _, rfl, _, rfl, w2, bh, _, _, rfl, rfl, sm8 _ _ hw2, sm8 _ _ h7, ?_, fun c hc => ?_⟩
      · rw [List.length_map, List.length_map]
        have := hb3 r hmr
        exact sl2 (by omega)
      have smc := same_new hc (o := .lst (r.2.map V.str ++ be.map V.str))
      refine ⟨sl2 (by show 3 ≤ 1000000; decide), fun u hu => ?_⟩
      have smu := same_new hu (o := .tup [.str n, .str r.1, .ref c])
      have hus9 := smu _ _ (smc _ _ hus)
      have hcD : c ≠ D := fun z => by rw [z, hus] at hc; cases hc
      have huD : u ≠ D := fun z => by rw [z, smc _ _ hus] at hu; cases hu
      have hcc := smu _ _ (upd_same : (upd H8 c (.lst (r.2.map V.str ++ be.map V.str))) c = some (.lst (r.2.map V.str ++ be.map V.str)))
      have huu : (upd (upd H8 c (.lst (r.2.map V.str ++ be.map V.str))) u (.tup [.str n, .str r.1, .ref c])) u = some (.tup [.str n, .str r.1, .ref c]) := upd_same
      have sm9 := smc.trans smu
      have hup9 := Paired.mapP hup fun _ _ h => TrioX.same sm9 h
      generalize (upd (upd H8 c (.lst (r.2.map V.str ++ be.map V.str))) u (.tup [.str n, .str r.1, .ref c])) = H9 at hus9 hcc huu sm9 hup9 ⊢
      refine ⟨_, hus9, ?_, same_mut (sm8.trans sm9) hD, us ++ [u], by rw [upd_same, List.map_append]; rfl, ?_⟩
      · rw [List.length_map, paired_len hup, List.length_map, List.length_take]
        exact sl1 (by omega)
      · rw [take_snoc hr1, List.map_append]
        have hent : TrioX D H9 u (nw r) := ⟨c, hcD, huu, by rw [hcc, ← List.map_append]⟩
        exact paired_app (F := TrioX D (upd H9 D (.lst (us.map V.ref ++ [V.ref u])))) (hent.mutL hus9 _) (Paired.mapP hup9 fun _ _ h => h.mutL hus9 _)
    rintro H8 ⟨sm8, us, hus, hup⟩
    rw [List.length_map, htl, List.take_length] at hup
    have w8 := w7.same sm8
    have bt8 := bt7.same sm8
    have h8 := sm8 _ _ h7
    have hulen : us.length = (rulesOf rs o).length := by rw [paired_len hup, List.length_map]
    have hlike : LikeR names bs rs n ((rulesOf rs o).map nw) := by
      refine ⟨⟨o, ho, by rw [List.map_map]; rfl⟩, fun r hr => ?_⟩
      obtain ⟨p, hp, rfl⟩ := List.mem_map.mp hr
      refine ⟨rfl, by show (p.2 ++ be).length ≤ 3; rw [List.length_append]; exact hb3 p hp, fun x hx => ?_⟩
      rcases List.mem_append.mp (show x ∈ p.2 ++ be from hx) with hx | hx
      · exact (hgood.ok _ (mem_rulesOf.mp hp)).2.2.2 x hx
      · exact hbn x (hbin x hx)
    have hDH : H D = none := bt7.freeW w7 hD
    have hDs : D ≠ s := by
      obtain ⟨os, hos⟩ := w7.some
      exact (ne_of_none hos hD).symm
    clear sm8 h7 hpm7 hmi7 w7 bt7
    -- one of them another one
    refine ⟨fun σ' H' => ∃ (us : List Addr) (new : List Rule) (x9 : Option V), σ' = [some (.ref s), some (.ref ru), some kn, some (.ref na), some (.str n), some (.str o), some (.ref bh), some (.ref mi), some (.ref D), x9, none, none] ∧ But s H H' ∧ WellAt H' s (k + 10) ∧ H' D = some (.lst (us.map V.ref)) ∧ Paired (TrioAt H') us new ∧ LikeR names bs rs n new, ?_, ?_⟩
    · refine ⟨_, rfl, s, _, _, rfl, w8, by omega, by decide, by decide, fun j H9 j0 j1 bt9 w9 => ?_⟩
      refine ⟨rfl, _, rfl, ?_⟩
      have hus9 := bt9 _ _ hDs hus
      have hup9 := Paired.mapP hup fun _ _ h => TrioX.but w8 bt9 h
      have h9 := bt9 _ _ (w8.ne_strs h8) h8
      have bt09 := bt8.trans bt9
      refine iteB (fun hc => ?_) (fun hc => ?_)
      · refine ⟨_, rfl, _, rfl, D, _, rfl, .inl (SqL.of hus9), s, _, _, rfl, w9, by omega, ?_, ?_, fun at_ H10 a0 a1 bt10 w10 => ?_⟩
        · rw [List.length_map, hulen]
          have := List.length_pos_iff.mpr hro
          omega
        · rw [List.length_map, hulen]
          omega
        obtain ⟨an, rfl⟩ : ∃ an : Nat, at_ = (an : Int) := ⟨at_.toNat, (Int.toNat_of_nonneg a0).symm⟩
        rw [List.length_map] at a1
        have han : an < us.length := by omega
        have hus10 := bt10 _ _ hDs hus9
        have hup10 := Paired.mapP hup9 fun _ _ h => TrioX.but w9 bt10 h
        have h10 := bt10 _ _ (w9.ne_strs h9) h9
        have hu0 : us[an]? = some us[an] := List.getElem?_eq_getElem han
        obtain ⟨r0, hr0, w0, _, hw1, hw2⟩ := paired_get hup10 hu0
        have hmr0 := List.mem_of_getElem? hr0
        have eb1 : cutV (be.map V.str) none (some 1) = be.map V.str := by
          have := cut_lt (be.map V.str) 1
          exact this.trans (List.take_of_length_le (by rw [List.length_map]; exact hbe1))
        refine ⟨_, rfl, _, rfl, _, rfl, D, _, _, _, rfl, rfl, SqL.of hus10, atI_nat (j := an) (by rw [List.getElem?_map, hu0]; rfl), us[an], _, _, _, rfl, rfl, SqT.of hw1, atI_nat (j := 1) rfl, ?_⟩
        refine ⟨_, rfl, _, rfl, bh, _, rfl, SqL.of h10, fun c1 hc1 => ?_⟩
        rw [eb1]
        have sm11 := same_new hc1 (o := .lst (be.map V.str))
        refine ⟨_, rfl, _, rfl, bh, _, rfl, SqL.of (sm11 _ _ h10), fun c2 hc2 => ?_⟩
        rw [eb1]
        have sm12 := same_new hc2 (o := .lst (be.map V.str))
        refine ⟨c1, c2, _, _, rfl, rfl, sm12 _ _ upd_same, upd_same, by rw [List.length_map]; exact sl2 (by omega), fun c3 hc3 => ?_⟩
        have sm13 := same_new hc3 (o := .lst (be.map V.str ++ be.map V.str))
        refine ⟨sl2 (by show 3 ≤ 1000000; decide), fun u hu => ?_⟩
        have smu := same_new hu (o := .tup [.str n, .str r0.2.1, .ref c3])
        have smA := sm11.trans (sm12.trans (sm13.trans smu))
        have husA := smA _ _ hus10
        have huD : u ≠ D := fun z => by rw [z, (sm11.trans (sm12.trans sm13)) _ _ hus10] at hu; cases hu
        have hcD : c3 ≠ D := fun z => by rw [z, (sm11.trans sm12) _ _ hus10] at hc3; cases hc3
        have hcc := smu _ _ (upd_same : (upd (upd (upd H10 c1 (.lst (be.map V.str))) c2 (.lst (be.map V.str))) c3 (.lst (be.map V.str ++ be.map V.str))) c3 = some (.lst (be.map V.str ++ be.map V.str)))
        have huu : (upd (upd (upd (upd H10 c1 (.lst (be.map V.str))) c2 (.lst (be.map V.str))) c3 (.lst (be.map V.str ++ be.map V.str))) u (.tup [.str n, .str r0.2.1, .ref c3])) u = some (.tup [.str n, .str r0.2.1, .ref c3]) := upd_same
        generalize (upd (upd (upd (upd H10 c1 (.lst (be.map V.str))) c2 (.lst (be.map V.str))) c3 (.lst (be.map V.str ++ be.map V.str))) u (.tup [.str n, .str r0.2.1, .ref c3])) = H11 at smA husA hcc huu ⊢
        refine ⟨_, rfl, _, rfl, D, _, _, an, rfl, rfl, husA, by unfold ixN; rw [if_pos (by omega), if_pos (by rw [List.length_map]; omega)]; rfl, ?_⟩
        have hset : (us.map V.ref).set an (V.ref u) = (us.set an u).map V.ref := (List.map_set ..).symm
        have hent : TrioX D H11 u (n, r0.2.1, be ++ be) := ⟨c3, hcD, huu, by rw [hcc, ← List.map_append]⟩
        have hup11 := paired_set an (Paired.mapP hup10 fun _ _ h => TrioX.same smA h) hent
        have hD0 : But s H (upd H11 D (.lst ((us.map V.ref).set an (V.ref u)))) := ((bt09.trans bt10).same smA).cellN hDH _
        refine ⟨us.set an u, ((rulesOf rs o).map nw).set an (n, r0.2.1, be ++ be), _, rfl, hD0, ?_, by rw [upd_same, hset], ?_, ?_⟩
        · exact ((w10.same smA).mutN hDs.symm _).mono (by omega)
        · exact Paired.mapP hup11 fun _ _ h => (let ⟨w, _, b, c⟩ := h.mutL husA _; ⟨w, b, c⟩)
        · have hl0 : ((rulesOf rs o).map nw)[an]? = some r0 := hr0
          refine ⟨⟨o, ho, ?_⟩, fun r hr => ?_⟩
          · rw [List.map_set, show (((rulesOf rs o).map nw).map (·.2.1)).set an r0.2.1 = ((rulesOf rs o).map nw).map (·.2.1) from ?_]
            · rw [List.map_map]; rfl
            · have h1 : (((rulesOf rs o).map nw).map (·.2.1))[an]? = some r0.2.1 := by rw [List.getElem?_map, hl0]; rfl
              exact set_same h1
          · rcases List.mem_or_eq_of_mem_set hr with hr | rfl
            · exact hlike.row r hr
            · refine ⟨rfl, by show (be ++ be).length ≤ 3; rw [List.length_append]; omega, fun x hx => ?_⟩
              rcases List.mem_append.mp (show x ∈ be ++ be from hx) with hx | hx
              · exact hbn x (hbin x hx)
              · exact hbn x (hbin x hx)
      · exact ⟨us, _, _, rfl, bt09, w9.mono (by omega), hus9, Paired.mapP hup9 fun _ _ ⟨w, _, b, c⟩ => ⟨w, b, c⟩, hlike⟩
    · rintro σ' H9 ⟨us, new, x9, rfl, bt9, w9, h9, hp9, hl9⟩
      exact ⟨_, rfl, q D H9 new bt9 w9 ⟨us, h9, hp9⟩ hl9⟩
end
end SG
namespace SG
open PySem PySem.Spec PyProof.Rows L2
section
variable {P : Program} {w : World} {K : PySem.W.Frag} {mg : Str → Option Value} {base : Heap} {A : Ad}
theorem atI_nat' {xs : List V} {i : Int} {j : Nat} {v : V} (h : i = (j : Int)) (hv : xs[j]? = some v) : atI xs i = some v := by
  subst h
  exact atI_nat hv
theorem paired_apps {α β : Type} {F : α → β → Prop} : ∀ {xs xs2 : List α} {ys ys2 : List β}, Paired F xs ys → Paired F xs2 ys2 → Paired F (xs ++ xs2) (ys ++ ys2)
  | _, _, _, _, .nil, h => h
  | _, _, _, _, .cons a t, h => .cons a (paired_apps t h)
def sp_law (K : PySem.W.Frag) : Sp := fun vs H Q _ => ∃ (a : Addr) (ns : List Int), vs = [.ref a] ∧ SqL K H a (ns.map V.int) ∧ ns.length ≤ 63 ∧ ∀ H', Q (.bl true) H'
theorem ok_law {f : Addr} {fd : FuncData} (F : Fun K "law" "law" s_law f fd) (T : Txt K mg A) : FnOk P w K mg base CX0 8 f fd ["_law_script"] (sp_law K) := by
  have G__law_cell_at : FnOk P w K mg base CX0 1 A.a__law_cell_at A.d__law_cell_at ["_law_script", "_law_k"] (sp_cell_at K) := ok__law_cell_at T
  have G__law_well : FnOk P w K mg base CX0 1 A.a__law_well A.d__law_well ["_law_cell"] sp_well := ok__law_well T
  have G__law_draw : FnOk P w K mg base CX0 1 A.a__law_draw A.d__law_draw ["_law_well_here", "_law_many"] sp_draw := ok__law_draw T
  have G__law_one : FnOk P w K mg base CX0 2 A.a__law_one A.d__law_one ["_law_well_here", "_law_some"] sp_one := ok__law_one T
  have G__law_names : FnOk P w K mg base CX0 2 A.a__law_names A.d__law_names ["_law_well_here", "_law_many"] sp_namesB := ok__law_names T
  have G__law_signs : FnOk P w K mg base CX0 2 A.a__law_signs A.d__law_signs ["_law_well_here", "_law_many"] sp_signsB := ok__law_signs T
  have G__law_mixed : FnOk P w K mg base CX0 2 A.a__law_mixed A.d__law_mixed ["_law_well_here", "_law_some"] sp_mixed := ok__law_mixed T
  have G__law_rules : FnOk P w K mg base CX0 3 A.a__law_rules A.d__law_rules ["_law_well_here", "_law_names_here", "_law_signs_here", "_law_plain", "_law_most"] sp_rulesB := ok__law_rules T
  have G_ends_by : FnOk P w K mg base CX0 6 A.a_ends_by A.d_ends_by ["grammar", "row", "word"] (sp_ends_by A.c_Grammar) := ok_ends_by T
  have G__law_like : FnOk P w K mg base CX0 3 A.a__law_like A.d__law_like ["_law_well_here", "_law_rules_here", "_law_known", "_law_names_here", "_law_name"] sp_like := ok__law_like T
  have G__law_due : FnOk P w K mg base CX0 2 A.a__law_due A.d__law_due ["_law_rules_here", "_law_one_here", "_law_other", "_law_signs_here", "_law_most"] (sp_due K) := ok__law_due T
  have G_parting_word : FnOk P w K mg base CX0 5 A.a_parting_word A.d_parting_word ["grammar", "one", "other", "most"] (sp_parting A.c_Grammar) := ok_parting_word T
  have G_Grammar___init__ : FnOk P w K mg base CX0 4 A.a_Grammar___init__ A.d_Grammar___init__ ["self", "names", "rules"] (sp_G_init K A.c_Grammar) := ok_Grammar___init__ T
  refine F.ok sc_law (fun vs H Q E h => ?_) (fun cdv A0 outer s0 H vs Q E hr h => ?_)
  · obtain ⟨a, ns, rfl, _⟩ := h
    rfl
  · obtain ⟨a, ns, rfl, hS, hlen, q⟩ := h
    have hu := hu_of hr
    have hu64 := hu64_of hr
    refine ⟨_, (pss_cons (ps_for PassesOwn.never rfl (pi_list (pe_op op_cat (pe_lst (pa_cons (pe_call G__law_cell_at (hr.mono (by decide)) (by rfl) T.g__law_cell_at T.F__law_cell_at.kp T.b__law_cell_at .nil pass0 (pa_cons (pv 0) (pa_cons pe_int pa_nil))) pa_nil)) (pe_slice (r := rSlL K) sl_list (pv 0) (po_some pe_int) (po_some pe_int)))) (pg_name (i := 1) sc_law.nd rfl (Or.inl rfl))
 (pss_cons (ps_set (i := 2) sc_law.nd rfl (Or.inr rfl) (pe_call G__law_well (hr.mono (by decide)) (by rfl) T.g__law_well T.F__law_well.kp T.b__law_well .nil pass0 (pa_cons (pv 1) pa_nil)))
 (pss_cons (ps_set (i := 3) sc_law.nd rfl (Or.inr rfl) (pe_call G__law_names (hr.mono (by decide)) (by rfl) T.g__law_names T.F__law_names.kp T.b__law_names .nil pass0 (pa_cons (pv 2) (pa_cons (pe_op op_add pe_int (pe_call G__law_draw (hr.mono (by decide)) (by rfl) T.g__law_draw T.F__law_draw.kp T.b__law_draw .nil pass0 (pa_cons (pv 2) (pa_cons pe_int pa_nil)))) pa_nil))))
 (pss_cons (ps_set (i := 4) sc_law.nd rfl (Or.inl rfl) (pe_call G__law_signs (hr.mono (by decide)) (by rfl) T.g__law_signs T.F__law_signs.kp T.b__law_signs .nil pass0 (pa_cons (pv 2) (pa_cons (pe_op op_add pe_int (pe_call G__law_draw (hr.mono (by decide)) (by rfl) T.g__law_draw T.F__law_draw.kp T.b__law_draw .nil pass0 (pa_cons (pv 2) (pa_cons pe_int pa_nil)))) pa_nil))))
 (pss_cons (ps_asg (pe_call G__law_rules (hr.mono (by decide)) (by rfl) T.g__law_rules T.F__law_rules.kp T.b__law_rules .nil pass0 (pa_cons (pv 2) (pa_cons (pe_slice (r := rSlL K) sl_list (pv 3) po_none (po_some (pe_un un_neg pe_int))) (pa_cons (pv 4) (pa_cons pe_bl (pa_cons pe_int pa_nil)))))) (pg_tup (by rfl) (pgs_cons (pg_name (i := 5) sc_law.nd rfl (Or.inl rfl)) (pgs_cons (pg_name (i := 6) sc_law.nd rfl (Or.inl rfl)) pgs_nil))))
 (pss_cons (ps_for PassesOwn.never rfl (pi_list (pe_lst (pa_cons pe_int (pa_cons pe_int pa_nil)))) (pg_name (i := 7) sc_law.nd rfl (Or.inl rfl))
 (pss_one (ps_set (i := 5) sc_law.nd rfl (Or.inl rfl) (pe_op op_cat (pv 5) (pe_call G__law_like (hr.mono (by decide)) (by rfl) T.g__law_like T.F__law_like.kp T.b__law_like .nil pass0 (pa_cons (pv 2) (pa_cons (pv 5) (pa_cons (pv 6) (pa_cons (pe_slice (r := rSlL K) sl_list (pv 3) po_none (po_some (pe_un un_neg (pv 7)))) (pa_cons (pe_ix (r := rIxL K) ix_list (pv 3) (pe_op op_sub (pe_callB (id := "len") (r := Evl.rLenS K) call_len_seq (by rfl) T.len (by decide +kernel) (pa_cons (pv 3) pa_nil)) (pv 7)) (fun _ _ => rfl)) pa_nil))))))))))
 (pss_cons (ps_set (i := 8) sc_law.nd rfl (Or.inl rfl) (pe_make T.mk_Grammar G_Grammar___init__ (hr.mono (by decide)) (by rfl) T.g_Grammar T.b_Grammar___init__ .nil pass0 (pa_cons (pe_call G__law_mixed (hr.mono (by decide)) (by rfl) T.g__law_mixed T.F__law_mixed.kp T.b__law_mixed .nil pass0 (pa_cons (pv 2) (pa_cons (pv 3) pa_nil))) (pa_cons (pv 5) pa_nil))))
 (pss_cons (ps_setLc (i := 9) (own := [("_law_j", 14)]) (g := gName 14) (by rfl) sc_law.nd rfl rfl (sw_true rfl rfl rfl (by decide +kernel)) (pi_range1 (by rfl) T.range (pa_cons (pe_call G__law_draw (hr.mono (by decide)) (by rfl) T.g__law_draw T.F__law_draw.kp T.b__law_draw .nil pass0 (pa_cons (pv 2) (pa_cons pe_int pa_nil))) pa_nil)) (blkOk_by (own := [("_law_j", 14)]) (N := ["_law_script", "_law_cell", "_law_well_here", "_law_names_here", "_law_signs_here", "_law_rules_here", "_law_known", "_law_k", "_law_grammar", "_law_row", "_law_at", "_law_other", "_law_most", "_law_due_here", "_law_j"]) (sc := defScope s_law) (by decide +kernel)) (fun _ _ _ _ _ => (pg_name (i := 14) sc_law.nd rfl (Or.inl rfl))) (fun _ _ _ _ _ => pts_nil) (fun _ _ _ _ _ => (pe_call G__law_one (hr.mono (by decide)) (by rfl) T.g__law_one T.F__law_one.kp T.b__law_one .nil pass0 (pa_cons (pv 2) (pa_cons (pv 3) pa_nil)))))
 (pss_cons (ps_set (i := 10) sc_law.nd rfl (Or.inl rfl) (pe_call G__law_draw (hr.mono (by decide)) (by rfl) T.g__law_draw T.F__law_draw.kp T.b__law_draw .nil pass0 (pa_cons (pv 2) (pa_cons (pe_op op_add (pe_callB (id := "len") (r := Evl.rLenS K) call_len_seq (by rfl) T.len (by decide +kernel) (pa_cons (pv 9) pa_nil)) pe_int) pa_nil))))
 (pss_cons (ps_set (i := 11) sc_law.nd rfl (Or.inl rfl) (pe_op op_cat (pe_op op_cat (pe_slice (r := rSlL K) sl_list (pv 9) po_none (po_some (pv 10))) (pe_lc (own := [("_law_k", 7)]) (g := gName 7) (by rfl) sc_law.nd (pi_range1 (by rfl) T.range (pa_cons (pe_call G__law_draw (hr.mono (by decide)) (by rfl) T.g__law_draw T.F__law_draw.kp T.b__law_draw .nil pass0 (pa_cons (pv 2) (pa_cons pe_int pa_nil))) pa_nil)) (blkOk_by (own := [("_law_k", 7)]) (N := ["_law_script", "_law_cell", "_law_well_here", "_law_names_here", "_law_signs_here", "_law_rules_here", "_law_known", "_law_k", "_law_grammar", "_law_row", "_law_at", "_law_other", "_law_most", "_law_due_here", "_law_j"]) (sc := defScope s_law) (by decide +kernel)) (fun _ _ _ _ _ => (pg_name (i := 7) sc_law.nd rfl (Or.inl rfl))) (fun _ _ _ _ _ => pts_nil) (fun _ _ _ _ _ => (pe_call G__law_one (hr.mono (by decide)) (by rfl) T.g__law_one T.F__law_one.kp T.b__law_one .nil pass0 (pa_cons (pv 2) (pa_cons (pv 3) pa_nil)))))) (pe_slice (r := rSlL K) sl_list (pv 9) (po_some (pe_op op_add (pv 10) (pe_call G__law_draw (hr.mono (by decide)) (by rfl) T.g__law_draw T.F__law_draw.kp T.b__law_draw .nil pass0 (pa_cons (pv 2) (pa_cons pe_int pa_nil))))) po_none)))
 (pss_cons (ps_set (i := 12) sc_law.nd rfl (Or.inl rfl) (pe_call G__law_draw (hr.mono (by decide)) (by rfl) T.g__law_draw T.F__law_draw.kp T.b__law_draw .nil pass0 (pa_cons (pv 2) (pa_cons (pe_ix (r := rIxL K) ix_list (pe_lst (pa_cons pe_int (pa_cons pe_int (pa_cons pe_int pa_nil)))) (pe_op op_sub (pe_callB (id := "len") (r := Evl.rLenS K) call_len_seq (by rfl) T.len (by decide +kernel) (pa_cons (pv 4) pa_nil)) pe_int) (fun _ _ => rfl)) pa_nil))))
 (pss_cons (ps_set (i := 13) sc_law.nd rfl (Or.inl rfl) (pe_call G__law_due (hr.mono (by decide)) (by rfl) T.g__law_due T.F__law_due.kp T.b__law_due .nil pass0 (pa_cons (pv 5) (pa_cons (pv 9) (pa_cons (pv 11) (pa_cons (pv 4) (pa_cons (pv 12) pa_nil)))))))
 (pss_cons (ps_if (PW.pt (pw_or (pt_cmpR (r := rNeP K) (op_neP hu64) (pe_call G_parting_word (hr.mono (by decide)) (by rfl) T.g_parting_word T.F_parting_word.kp T.b_parting_word .nil pass0 (pa_cons (pv 8) (pa_cons (pv 9) (pa_cons (pv 11) (pa_cons (pv 12) pa_nil))))) (pv 13) (nomark _)) (pw_or1 (pt_cmpR (r := rNeP K) (op_neP hu64) (pe_call G_parting_word (hr.mono (by decide)) (by rfl) T.g_parting_word T.F_parting_word.kp T.b_parting_word .nil pass0 (pa_cons (pv 8) (pa_cons (pv 11) (pa_cons (pv 9) (pa_cons (pv 12) pa_nil))))) (pv 13) (nomark _))))) (pss_one (ps_ret pe_bl)) pss_nil)
 (pss_cons (ps_if (PW.pt (pw_and (pt_cmpR op_notN (pv 13) pe_non (nomark _)) (pw_and1 (pt_cmpR op_eq (pe_call G_ends_by (hr.mono (by decide)) (by rfl) T.g_ends_by T.F_ends_by.kp T.b_ends_by .nil pass0 (pa_cons (pv 8) (pa_cons (pv 9) (pa_cons (pv 13) pa_nil)))) (pe_call G_ends_by (hr.mono (by decide)) (by rfl) T.g_ends_by T.F_ends_by.kp T.b_ends_by .nil pass0 (pa_cons (pv 8) (pa_cons (pv 11) (pa_cons (pv 13) pa_nil)))) (nomark _))))) (pss_one (ps_ret pe_bl)) pss_nil)
 (pss_one (ps_if (pt_cmpR op_notN (pe_call G_parting_word (hr.mono (by decide)) (by rfl) T.g_parting_word T.F_parting_word.kp T.b_parting_word .nil pass0 (pa_cons (pv 8) (pa_cons (pv 9) (pa_cons (pv 9) (pa_cons (pv 12) pa_nil))))) pe_non (nomark _)) (pss_one (ps_ret pe_bl)) pss_nil))))))))))))))))
 (pss_one (ps_ret pe_bl))), ?_⟩
    -- the cells
    refine ⟨_, rfl, a, ns, 0, rfl, hS, fun z0 => ?_⟩
    refine ⟨sl2 (by show 1 ≤ 1000000; decide), fun p1 hp1 => ?_⟩
    have sm1 := same_new hp1 (o := .lst [V.int z0])
    refine ⟨_, rfl, _, rfl, _, rfl, a, _, rfl, sm1.seq hS, fun p2 hp2 => ?_⟩
    obtain ⟨zs, hzs, hzl, _⟩ := cut_ints ns (some 1) (some 3)
    rw [hzs]
    have sm2 := same_new hp2 (o := .lst (zs.map V.int))
    refine ⟨p1, p2, _, _, rfl, rfl, sm2 _ _ upd_same, upd_same, by rw [List.length_map]; exact sl2 (by show 1 + zs.length ≤ 1000000; omega), fun p3 hp3 => ?_⟩
    have h3 : (upd (upd (upd H p1 (.lst [V.int z0])) p2 (.lst (zs.map V.int))) p3 (.lst ([V.int z0] ++ zs.map V.int))) p3 = some (.lst ((z0 :: zs).map V.int)) := upd_same
    generalize (upd (upd (upd H p1 (.lst [V.int z0])) p2 (.lst (zs.map V.int))) p3 (.lst ([V.int z0] ++ zs.map V.int))) = H1 at h3 ⊢
    refine ⟨p3, rfl, ⟨_, SqL.of h3⟩, for_list (K := K) (a := p3) (xs := (z0 :: zs).map V.int) (fun i σ' H' => ∃ x1 x2 x3 x4 x5 x6 x7 x8 x9 x10 x11 x12 x13 : Option V, σ' = [some (.ref a), x1, x2, x3, x4, x5, x6, x7, x8, x9, x10, x11, x12, x13, none] ∧ Same H1 H') ?_ ?_ ?_ ?_⟩
    · exact ⟨_, _, _, _, _, _, _, _, _, _, _, _, _, rfl, Same.refl _⟩
    · rintro i σ' H2 _ ⟨_, _, _, _, _, _, _, _, _, _, _, _, _, rfl, sm⟩
      exact SqL.of (sm _ _ h3)
    · rintro i x σ' H2 hi ⟨x1, x2, x3, x4, x5, x6, x7, x8, x9, x10, x11, x12, x13, rfl, sm⟩
      obtain ⟨cell, hcell, rfl⟩ := map_at hi
      refine ⟨_, rfl, cell, rfl, fun s H3 hs sm3 hw3 => ?_⟩
      -- names
      refine ⟨_, rfl, _, rfl, s, _, 0, rfl, hw3, by decide, by decide, by decide, fun j H4 j0 j1 bt4 hw4 => ?_⟩
      obtain ⟨jn, rfl⟩ : ∃ cn : Nat, j = (cn : Int) := ⟨j.toNat, (Int.toNat_of_nonneg j0).symm⟩
      refine ⟨_, _, rfl, rfl, s, 3 + jn, _, by dsimp only; exact congrArg (fun q => [V.ref s, V.int q]) (by omega), by omega, hw4, by decide, fun nl H5 names nl0 bt5 hw5 hnl hNB => ?_⟩
      have hnames := hNB.names (by omega) (by omega)
      have bt05 := bt4.trans bt5
      -- signs
      refine ⟨_, rfl, _, rfl, s, _, _, rfl, hw5, by decide, by decide, by decide, fun j H6 k0 k1 bt6 hw6 => ?_⟩
      obtain ⟨kn, rfl⟩ : ∃ cn : Nat, j = (cn : Int) := ⟨j.toNat, (Int.toNat_of_nonneg k0).symm⟩
      refine ⟨_, _, rfl, rfl, s, 1 + kn, _, by dsimp only; exact congrArg (fun q => [V.ref s, V.int q]) (by omega), by omega, hw6, by decide, fun sg H7 signs sg0 bt7 hw7 hsg hSB => ?_⟩
      have hsok := hSB.ok
      have bt07 := (bt05.trans bt6).trans bt7
      have hnl7 := bt7 _ _ (hw6.ne_strs (bt6 _ _ (hw5.ne_strs hnl) hnl)) (bt6 _ _ (hw5.ne_strs hnl) hnl)
      have hnnd := areNames_nd hnames
      have hn6 := areNames_l6 hnames
      have hn1 : 1 ≤ names.length := by
        have := hNB.1
        omega
      have hsl : signs.length = 1 + kn := hSB.1
      -- rules
      have hN3 : 3 ≤ names.length ∧ names.length ≤ 5 := by have := hNB.1; omega
      refine ⟨_, rfl, _, rfl, _, rfl, _, rfl, nl, _, rfl, SqL.of hnl7, fun bp hbp => ?_⟩
      have ecut : cutV (names.map V.str) none (some (-2)) = (names.take (names.length - 2)).map V.str := by
        have h1 := cut_negk (names.map V.str) 2 (by decide) (by rw [List.length_map]; omega)
        rw [List.length_map] at h1
        rw [List.map_take]
        exact h1
      have hbp2 : (upd H7 bp (.lst (cutV (names.map V.str) none (some (-2))))) bp = some (.lst ((names.take (names.length - 2)).map V.str)) := by rw [upd_same, ecut]
      have smbp := same_new hbp (o := .lst (cutV (names.map V.str) none (some (-2))))
      have hw7' := hw7.same smbp
      have hnl7' := smbp _ _ hnl7
      have hsg7' := smbp _ _ hsg
      have bt07' := bt07.same smbp
      have hbl : (names.take (names.length - 2)).length = names.length - 2 := by rw [List.length_take]; omega
      generalize (upd H7 bp (.lst (cutV (names.map V.str) none (some (-2))))) = H7' at hbp2 smbp hw7' hnl7' hsg7' bt07' ⊢
      clear smbp hbp ecut
      refine ⟨_, rfl, s, bp, sg, true, 12, names.take (names.length - 2), signs, _, rfl, hw7', by decide, hbp2, hsg7', hnnd.sublist (List.take_sublist _ _), by omega, by omega, fun e => by rw [e] at hsl; simp at hsl; omega, by omega, hsok, fun pr ru0 kn2 H8 rs0 bt8 hw8 pr0 ru0' kn0 hpr htr _ hgood0 hplain0 hends0 hrl0 hlet0 => ?_⟩
      have hplain0 := hplain0 rfl
      have htr0 : TriosAt H8 ru0 rs0 := by
        obtain ⟨ts, h1, h2⟩ := htr
        exact ⟨ts, h1, Paired.mapP h2 fun _ _ ⟨_, w, _, h3, h4⟩ => ⟨w, h3, h4⟩⟩
      have hnl8 := bt8 _ _ (hw7'.ne_strs hnl7') hnl7'
      have hsg8 := bt8 _ _ (hw7'.ne_strs hsg7') hsg7'
      have bt08 := bt07'.trans bt8
      have hw8' := hw8.mono (m := 2000) (by omega)
      refine ⟨pr, _, rfl, SqT.of hpr, rfl, _, _, rfl, _, _, rfl, rfl, ?_⟩
      clear hpr htr pr0 ru0' kn0 bt8 hw8 hbp2 hsg7' hnl7' bt07' hw7' bt7 bt6 bt5 bt4 hw4 hw5 hw6 hw7 hnl hnl7 hsg
      -- two more
      refine ⟨sl2 (by show 2 ≤ 1000000; decide), fun kl hkl => ?_⟩
      have smk := same_new hkl (o := .lst [.int 2, .int 1])
      have hkk : (upd H8 kl (.lst [.int 2, .int 1])) kl = some (.lst [.int 2, .int 1]) := upd_same
      have hks : kl ≠ s := by
        obtain ⟨os, hos⟩ := hw8'.some
        exact (ne_of_none hos hkl).symm
      refine ⟨kl, rfl, ⟨_, SqL.of hkk⟩, for_list (K := K) (a := kl) (xs := [.int 2, .int 1]) (fun i σ' H' => ∃ (ru : Addr) (rs : List Rule) (x7 : Option V), σ' = [some (.ref a), some (.int cell), some (.ref s), some (.ref nl), some (.ref sg), some (.ref ru), some (.ref kn2), x7, x8, x9, x10, x11, x12, x13, none] ∧ But s H8 H' ∧ WellAt H' s (2000 + 20 * i) ∧ H' kl = some (.lst [.int 2, .int 1]) ∧ TriosAt H' ru rs ∧ GoodR (names.take (names.length - 2 + i)) rs ∧ PlainR rs ∧ EndsR (names.take (names.length - 2 + i)) rs ∧ (∀ r ∈ rs, r.2.1 ∈ signs) ∧ rs.length ≤ 24 + 4 * i) ?_ ?_ ?_ ?_⟩
      · exact ⟨ru0, rs0, _, rfl, but_of_same smk, hw8'.same smk, hkk, htr0.same' smk, hgood0, hplain0, hends0, hlet0, hrl0⟩
      · rintro i σ' H' _ ⟨_, _, _, rfl, _, _, h, _⟩
        exact SqL.of h
      · clear htr0 hgood0 hplain0 hends0 hlet0 hrl0
        rintro i x σ' H9 hi2 ⟨ru, rs, x7, rfl, bt9, hw9, hk9, htr9, hgood9, hplain9, hends9, hlet9, hrl9⟩
        obtain ⟨hix, hi3⟩ : x = .int ((2 - i : Nat) : Int) ∧ i < 2 := by
          match i, hi2 with
          | 0, h => exact ⟨(Option.some.inj h).symm, by decide⟩
          | 1, h => exact ⟨(Option.some.inj h).symm, by decide⟩
          | n + 2, h => simp at h
        subst hix
        have hnl9 := bt9 _ _ (hw8'.ne_strs hnl8) hnl8
        obtain ⟨n1, hn1⟩ : ∃ n1, names[names.length - 2 + i]? = some n1 := ⟨_, List.getElem?_eq_getElem (by omega)⟩
        refine ⟨_, rfl, _, rfl, _, rfl, _, rfl, _, rfl, _, rfl, _, rfl, _, rfl, nl, _, rfl, SqL.of hnl9, fun bq hbq => ?_⟩
        have ecut : cutV (names.map V.str) none (some (-((2 - i : Nat) : Int))) = (names.take (names.length - 2 + i)).map V.str := by
          have h1 := cut_negk (names.map V.str) (2 - i) (by omega) (by rw [List.length_map]; omega)
          rw [List.length_map] at h1
          rw [List.map_take, h1]
          congr 1
          omega
        rw [ecut]
        have smq := same_new hbq (o := .lst ((names.take (names.length - 2 + i)).map V.str))
        have hqq : (upd H9 bq (.lst ((names.take (names.length - 2 + i)).map V.str))) bq = some (.lst ((names.take (names.length - 2 + i)).map V.str)) := upd_same
        refine ⟨_, rfl, _, rfl, nl, _, rfl, .inl (SqL.of (smq _ _ hnl9)), _, rfl, _, _, rfl, rfl, nl, _, _, _, rfl, rfl, SqL.of (smq _ _ hnl9), atI_nat' (j := names.length - 2 + i) (by rw [List.length_map]; omega) (by rw [List.getElem?_map, hn1]; rfl), ?_⟩
        have hbl9 : (names.take (names.length - 2 + i)).length = names.length - 2 + i := by rw [List.length_take]; omega
        refine ⟨s, ru, bq, .ref kn2, n1, _, names.take (names.length - 2 + i), names.take (names.length - 2 + i), rs, rfl, hw9.same smq, by omega, htr9.same' smq, hgood9, hends9, by omega, hqq, fun z => by rw [z] at hbl9; simp at hbl9; omega, by omega, fun x h => h, fun fq H10 new bt10 hw10 htr10 hlike => ?_⟩
        have hnn : n1 ∉ names.take (names.length - 2 + i) := not_mem_take_nd hnnd hn1
        obtain ⟨g1, g2, g3, g4, g5⟩ := hlike.good hgood9 hplain9 hends9 hnn (fun x h => h)
        have w9q := hw9.same smq
        have htr9' := trios_but (htr9.same' smq) w9q bt10
        have hk10 := bt10 _ _ hks (smq _ _ hk9)
        have bt910 := (bt9.same smq).trans bt10
        obtain ⟨ts1, ht1, hp1⟩ := htr9'
        obtain ⟨ts2, ht2, hp2⟩ := htr10
        have hl1 := paired_len hp1
        have hl2 := paired_len hp2
        refine ⟨ru, fq, _, _, rfl, rfl, ht1, ht2, by rw [List.length_map, List.length_map]; exact sl2 (by omega), fun cc hcc => ?_⟩
        have smc := same_new hcc (o := .lst (ts1.map V.ref ++ ts2.map V.ref))
        have e1 : names.take (names.length - 2 + (i + 1)) = names.take (names.length - 2 + i) ++ [n1] := take_snoc hn1
        refine ⟨cc, rs ++ new, _, rfl, bt910.same smc, (hw10.same smc).mono (by omega), smc _ _ hk10, ⟨ts1 ++ ts2, by rw [upd_same, List.map_append], paired_apps (Paired.mapP hp1 fun _ _ h => h.same smc) (Paired.mapP hp2 fun _ _ h => h.same smc)⟩, by rw [e1]; exact g1, g2, by rw [e1]; exact g3, fun r hr2 => ?_, by rw [List.length_append]; omega⟩
        rcases List.mem_append.mp hr2 with hr2 | hr2
        · exact hlet9 r hr2
        · obtain ⟨u, hu1, hu2⟩ := g4 r hr2
          rw [← hu2]
          exact hlet9 u hu1
      clear htr0 hgood0 hplain0 hends0 hlet0 hrl0
      rintro σ' H9 ⟨ru, rs, x7, rfl, bt9, hw9, _, htr9, hgood, hplain, hends, hlet, hrl⟩
      have eN : names.take (names.length - 2 + [V.int 2, V.int 1].length) = names := by
        show names.take (names.length - 2 + 2) = names
        exact List.take_of_length_le (by omega)
      rw [eN] at hgood hends
      have hnl9 := bt9 _ _ (hw8'.ne_strs hnl8) hnl8
      have hsg9 := bt9 _ _ (hw8'.ne_strs hsg8) hsg8
      have bt09 := bt08.trans bt9
      have hw9' := hw9.mono (m := 2100) (by show 2000 + 20 * 2 ≤ 2100; decide)
      have hrl32 : rs.length ≤ 32 := hrl
      clear hrl hw9 bt9 bt08 hnl8 hsg8 hw8' hks hkk smk hkl eN
      -- the grammar
      refine ⟨_, rfl, _, rfl, s, nl, names.map V.str, _, rfl, hw9', by decide, hnl9, hw9'.ne_strs hnl9, by rw [List.length_map]; omega, fun mn H10 ys mn0 bt10 hw10 hmn hperm => ?_⟩
      obtain ⟨ms, rfl, hms⟩ := perm_strs hperm
      have htr10 := trios_but htr9 hw9' bt10
      have hnl10 := bt10 _ _ (hw9'.ne_strs hnl9) hnl9
      have hsg10 := bt10 _ _ (hw9'.ne_strs hsg9) hsg9
      have bt010 := bt09.trans bt10
      have hmnames := areNames_perm hms.symm hnames
      have hmgood : GoodR ms rs := hgood.perm (fun x hx => hms.mem_iff.mpr hx) (List.Perm.refl _)
      have hmends : EndsR ms rs := fun x hx => hends x (hms.mem_iff.mp hx)
      have hw10' := hw10.mono (m := 2500) (by rw [List.length_map]; omega)
      clear hw10 hperm hnl9 hsg9 htr9 bt10 hw9'
      refine ⟨_, rfl, ?_⟩
      intro g dx hg hdx ndg
      have smg : Same H10 (upd (upd H10 dx (.own g)) g (.ins A.c_Grammar dx [])) := (same_new hdx).trans (same_new (by rw [upd_ne ndg.symm]; exact hg))
      refine ⟨g, dx, mn, ru, ms, rs, rfl, upd_same, smg _ _ hmn, hmnames, fun x hx => Nat.le_trans (areNames_len hmnames x hx) (by decide), htr10.same smg, hmgood.rulesOk, by omega, fun r hr1 => ⟨by rw [isLetter_len (hgood.ok r hr1).2.1]; decide, by have := (hgood.ok r hr1).2.2.1; omega⟩, fun H11 kp11 hB => ⟨rfl, ?_⟩⟩
      obtain ⟨dx', kn', st, od, ls, hB⟩ := hB
      have sm1011 : Same H10 H11 := fun b o h => kp11 b o (smg _ _ h) (ne_of_none h hg)
      have G : GramAt A.c_Grammar H11 g ms rs := hB.keep fun a o h _ => h
      clear hB kp11 smg hg hdx
      have htr11 := htr10.same sm1011
      have hnl11 := sm1011 _ _ hnl10
      have hsg11 := sm1011 _ _ hsg10
      have hw11 := hw10'.same sm1011
      have bt011 := bt010.same sm1011
      clear sm1011 bt010 hw10' hsg10 hnl10 htr10 hmn
      have hmnd := areNames_nd hmnames
      have hl6 : ms.length ≤ 1000 := by have := areNames_l6 hmnames; omega
      have smF : ∀ {H' : Hp}, But s H11 H' → Same H1 H' := fun b => (bt011.trans b).under (sm.free hs) (sm.trans sm3)
      -- a row
      refine ⟨_, rfl, s, _, _, rfl, hw11, by omega, by decide, by decide, fun j H12 k0 k1 bt12 hw12 => ?_⟩
      obtain ⟨cn, rfl⟩ : ∃ cn : Nat, j = (cn : Int) := ⟨j.toNat, (Int.toNat_of_nonneg k0).symm⟩
      refine ⟨(cn : Int), rfl, by omega, by omega, fun D hD => lc_range (fun j H' => ∃ row : List Str, But s H12 H' ∧ WellAt H' s (2501 + j) ∧ H' D = some (.lst (row.map V.str)) ∧ row.length = j ∧ ∀ x ∈ row, x ∈ names) ?_ ?_ ?_⟩
      · exact ⟨[], but_of_same (same_new hD), hw12.same (same_new hD), upd_same, rfl, fun x h => by simp at h⟩
      · rintro j H14 hj ⟨row, bt14, w14, h14, hrl2, hsub⟩
        have hnl14 := (bt12.trans bt14) _ _ (hw11.ne_strs hnl11) hnl11
        have hj9 : j < 5 := by
          have : (j : Int) < (cn : Int) := by simpa using hj
          omega
        refine ⟨rfl, tyes (iteT ?_)⟩
        refine ⟨_, rfl, _, rfl, s, nl, names.map V.str, _, rfl, w14, by omega, hnl14, w14.ne_strs hnl14, by rw [List.length_map]; omega, by rw [List.length_map]; omega, fun v H15 hv bt15 w15 => ?_⟩
        obtain ⟨o, ho, rfl⟩ := List.mem_map.mp hv
        have h15 := bt15 _ _ (w14.ne_strs h14) h14
        refine ⟨_, h15, by rw [List.length_map]; exact sl1 (by omega), row ++ [o], (bt14.trans bt15).cell hD _, w15.cell hw12 hD, by rw [upd_same, List.map_append]; rfl, by simp [hrl2], fun x hx => ?_⟩
        rcases List.mem_append.mp hx with hx | hx
        · exact hsub x hx
        · rw [List.mem_singleton.mp hx]; exact ho
      rintro H14 ⟨row, bt14, w14, h14, hrl2, hsub⟩
      have hrl9 : row.length ≤ 5 := by
        have : row.length = cn := hrl2
        omega
      have w14' := w14.mono (m := 2520) (by omega)
      have bt114 := bt12.trans bt14
      have hmsub : ∀ x ∈ row, x ∈ ms := fun x hx => hms.mem_iff.mpr (hsub x hx)
      clear w14 bt14 hD bt12 hw12 hrl2
      -- a place
      refine ⟨_, rfl, _, rfl, D, _, rfl, .inl (SqL.of h14), _, _, rfl, rfl, s, _, _, rfl, w14', by omega, by rw [List.length_map]; omega, by rw [List.length_map]; omega, fun j H15 a0 a1 bt15 w15 => ?_⟩
      obtain ⟨an, rfl⟩ : ∃ cn : Nat, j = (cn : Int) := ⟨j.toNat, (Int.toNat_of_nonneg a0).symm⟩
      rw [List.length_map] at a1
      have h15 := bt15 _ _ (w14'.ne_strs h14) h14
      have bt115 := bt114.trans bt15
      clear bt15 w14' bt114
      -- the other one
      refine ⟨_, rfl, _, rfl, _, rfl, D, _, rfl, SqL.of h15, fun c1 hc1 => ?_⟩
      rw [cut_lt, ← List.map_take]
      have sm16 := same_new hc1 (o := .lst ((row.take an).map V.str))
      have h1c : (upd H15 c1 (.lst ((row.take an).map V.str))) c1 = some (.lst ((row.take an).map V.str)) := upd_same
      have w16 := w15.same sm16
      have bt116 := bt115.same sm16
      have h16 := sm16 _ _ h15
      generalize (upd H15 c1 (.lst ((row.take an).map V.str))) = H16 at sm16 h1c w16 bt116 h16 ⊢
      clear sm16 hc1 bt115 w15 h15
      refine ⟨_, rfl, s, _, _, rfl, w16, by omega, by decide, by decide, fun j H17 k0 k1 bt17 w17 => ?_⟩
      obtain ⟨en, rfl⟩ : ∃ cn : Nat, j = (cn : Int) := ⟨j.toNat, (Int.toNat_of_nonneg k0).symm⟩
      have bt117 := bt116.trans bt17
      have h17 := bt17 _ _ (w16.ne_strs h16) h16
      have h1c7 := bt17 _ _ (w16.ne_strs h1c) h1c
      refine ⟨(en : Int), rfl, by omega, by omega, fun D2 hD2 => lc_range (fun j H' => ∃ ex : List Str, But s H17 H' ∧ WellAt H' s (2522 + j) ∧ H' D2 = some (.lst (ex.map V.str)) ∧ ex.length = j ∧ ∀ x ∈ ex, x ∈ names) ?_ ?_ ?_⟩
      · exact ⟨[], but_of_same (same_new hD2), w17.same (same_new hD2), upd_same, rfl, fun x h => by simp at h⟩
      · rintro j H18 hj ⟨ex, bt18, w18, h18, hel, hesub⟩
        have hnl18 := (bt117.trans bt18) _ _ (hw11.ne_strs hnl11) hnl11
        have hj9 : j < 3 := by
          have : (j : Int) < (en : Int) := by simpa using hj
          omega
        refine ⟨rfl, tyes (iteT ?_)⟩
        refine ⟨_, rfl, _, rfl, s, nl, names.map V.str, _, rfl, w18, by omega, hnl18, w18.ne_strs hnl18, by rw [List.length_map]; omega, by rw [List.length_map]; omega, fun v H19 hv bt19 w19 => ?_⟩
        obtain ⟨o, ho, rfl⟩ := List.mem_map.mp hv
        have h19 := bt19 _ _ (w18.ne_strs h18) h18
        refine ⟨_, h19, by rw [List.length_map]; exact sl1 (by omega), ex ++ [o], (bt18.trans bt19).cell hD2 _, w19.cell w17 hD2, by rw [upd_same, List.map_append]; rfl, by simp [hel], fun x hx => ?_⟩
        rcases List.mem_append.mp hx with hx | hx
        · exact hesub x hx
        · rw [List.mem_singleton.mp hx]; exact ho
      rintro H18 ⟨ex, bt18, w18, h18, hel, hesub⟩
      have hel3 : ex.length ≤ 3 := by
        have : ex.length = en := hel
        omega
      have h1c8 := bt18 _ _ (w17.ne_strs h1c7) h1c7
      have hr18 := bt18 _ _ (w17.ne_strs h17) h17
      have w18' := w18.mono (m := 2530) (by omega)
      have bt118 := bt117.trans bt18
      clear w18 bt18 hD2 h17 h1c7 bt117 bt17 w17 h16 h1c bt116 w16 hel
      refine ⟨c1, D2, _, _, rfl, rfl, h1c8, h18, by rw [List.length_map, List.length_map, List.length_take]; exact sl2 (by omega), fun c2 hc2 => ?_⟩
      have sm19 := same_new hc2 (o := .lst ((row.take an).map V.str ++ ex.map V.str))
      have h2c : (upd H18 c2 (.lst ((row.take an).map V.str ++ ex.map V.str))) c2 = some (.lst ((row.take an ++ ex).map V.str)) := by rw [upd_same, List.map_append]
      have w19 := w18'.same sm19
      have hr19 := sm19 _ _ hr18
      have bt119 := bt118.same sm19
      generalize (upd H18 c2 (.lst ((row.take an).map V.str ++ ex.map V.str))) = H19 at sm19 h2c w19 hr19 bt119 ⊢
      clear sm19 hc2 hr18 h18 h1c8 w18' bt118
      refine ⟨_, rfl, _, rfl, _, rfl, s, _, _, rfl, w19, by omega, by decide, by decide, fun j H20 d0 d1 bt20 w20 => ?_⟩
      obtain ⟨dn, rfl⟩ : ∃ cn : Nat, j = (cn : Int) := ⟨j.toNat, (Int.toNat_of_nonneg d0).symm⟩
      have hr20 := bt20 _ _ (w19.ne_strs hr19) hr19
      have h2c20 := bt20 _ _ (w19.ne_strs h2c) h2c
      have bt120 := bt119.trans bt20
      refine ⟨_, _, rfl, rfl, _, rfl, D, _, rfl, SqL.of hr20, fun c3 hc3 => ?_⟩
      have e3 : cutV (row.map V.str) (some ((an : Int) + (dn : Int))) none = (row.drop (an + dn)).map V.str := by
        rw [show (an : Int) + (dn : Int) = ((an + dn : Nat) : Int) by omega, cut_ge, List.map_drop]
      rw [e3]
      have sm21 := same_new hc3 (o := .lst ((row.drop (an + dn)).map V.str))
      refine ⟨c2, c3, _, _, rfl, rfl, sm21 _ _ h2c20, upd_same, by rw [List.length_map, List.length_map, List.length_append, List.length_take, List.length_drop]; exact sl2 (by omega), fun oc hoc => ?_⟩
      have sm22 := same_new hoc (o := .lst ((row.take an ++ ex).map V.str ++ (row.drop (an + dn)).map V.str))
      have sm2022 := sm21.trans sm22
      have hoo : (upd (upd H20 c3 (.lst ((row.drop (an + dn)).map V.str))) oc (.lst ((row.take an ++ ex).map V.str ++ (row.drop (an + dn)).map V.str))) oc = some (.lst ((row.take an ++ ex ++ row.drop (an + dn)).map V.str)) := by rw [upd_same, ← List.map_append]
      have hr22 := sm2022 _ _ hr20
      have w22 := w20.same sm2022
      have bt122 := bt120.same sm2022
      generalize (upd (upd H20 c3 (.lst ((row.drop (an + dn)).map V.str))) oc (.lst ((row.take an ++ ex).map V.str ++ (row.drop (an + dn)).map V.str))) = H22 at sm2022 hoo hr22 w22 bt122 ⊢
      clear sm2022 sm22 sm21 hoc hc3 h2c20 hr20 bt20 w20 bt120 h2c hr19 w19 bt119
      have hosub : ∀ x ∈ row.take an ++ ex ++ row.drop (an + dn), x ∈ names := fun x hx => by
        rcases List.mem_append.mp hx with hx | hx
        · rcases List.mem_append.mp hx with hx | hx
          · exact hsub x (List.mem_of_mem_take hx)
          · exact hesub x hx
        · exact hsub x (List.mem_of_mem_drop hx)
      have holen : (row.take an ++ ex ++ row.drop (an + dn)).length ≤ 100 := by
        rw [List.length_append, List.length_append, List.length_take, List.length_drop]
        omega
      generalize row.take an ++ ex ++ row.drop (an + dn) = other at hoo hosub holen
      have homsub : ∀ x ∈ other, x ∈ ms := fun x hx => hms.mem_iff.mpr (hosub x hx)
      -- most
      have hsg22 := bt122 _ _ (hw11.ne_strs hsg11) hsg11
      refine ⟨_, rfl, sl2 (by show 3 ≤ 1000000; decide), fun ml hml => ?_⟩
      have smm := same_new hml (o := .lst [.int 9, .int 9, .int 7])
      have hs3 : signs.length = 1 ∨ signs.length = 2 ∨ signs.length = 3 := by omega
      obtain ⟨bd, hbd, hbd2⟩ : ∃ bd : Int, atI [V.int 9, V.int 9, V.int 7] ((signs.length : Int) - 1) = some (.int bd) ∧ ((signs.length ≤ 2 ∧ bd = 9) ∨ (signs.length ≤ 3 ∧ bd = 7)) := by
        rcases hs3 with h | h | h
        · rw [h]; exact ⟨9, rfl, .inl ⟨by omega, rfl⟩⟩
        · rw [h]; exact ⟨9, rfl, .inl ⟨by omega, rfl⟩⟩
        · rw [h]; exact ⟨7, rfl, .inr ⟨by omega, rfl⟩⟩
      refine ⟨_, rfl, sg, _, rfl, .inl (SqL.of (smm _ _ hsg22)), _, _, rfl, rfl, ml, _, _, _, rfl, rfl, SqL.of upd_same, by rw [List.length_map]; exact hbd, ?_⟩
      refine ⟨s, bd, _, rfl, w22.same smm, by omega, by omega, by omega, fun j H23 q0 q1 bt23 w23 => ?_⟩
      obtain ⟨m, rfl⟩ : ∃ m : Nat, j = (m : Int) := ⟨j.toNat, (Int.toNat_of_nonneg q0).symm⟩
      have bt223 := (but_of_same smm).trans bt23
      have bt123 := bt122.trans bt223
      have hr23 := bt223 _ _ (w22.ne_strs hr22) hr22
      have ho23 := bt223 _ _ (w22.ne_strs hoo) hoo
      have hsg23 := bt223 _ _ (w22.ne_strs hsg22) hsg22
      have htr23 := trios_but htr11 hw11 bt123
      have G23 := G.but hw11 bt123
      have hpow : ∀ i, i ≤ m + 1 → signs.length ^ i ≤ 20000 := fun i hi => pow_few (by rcases hbd2 with ⟨h1, h2⟩ | ⟨h1, h2⟩ <;> omega) hi
      have hm8 : m ≤ 8 := by rcases hbd2 with ⟨h1, h2⟩ | ⟨h1, h2⟩ <;> omega
      clear smm hml bt223 bt23 w23 w22 hoo hr22 hsg22 bt122
      have hs1 : ∀ c ∈ signs, c.length = 1 := fun c hc => isLetter_len (hsok c hc)
      have hss1 : ∀ c ∈ ssort signs, c.length = 1 := fun c hc => hs1 c ((ssort_perm signs).mem_iff.mp hc)
      have hsnd := signsB_nd hSB (by omega)
      have hletF := fun p => letters_filter hlet hsnd p
      have hpow' : ∀ i, i ≤ m + 1 → (ssort signs).length ^ i ≤ 20000 := by rw [ssort_len]; exact hpow
      have hssl : (ssort signs).length ≤ 26 := by rw [ssort_len]; omega
      -- due
      refine ⟨_, rfl, _, rfl, _, rfl, _, rfl, _, rfl, ru, D, oc, sg, m, names, signs, rs, row, other, rfl, htr23, hgood, by omega, hr23, ho23, hsub, hosub, by omega, by omega, hsg23, by omega, hs1, by omega, hpow, fun H24 sm24 => ?_⟩
      generalize hdd : firstL (layF rs (ssort signs) (some row, some other)) (m + 1) = dd
      refine ⟨_, rfl, _, rfl, _, rfl, _, rfl, g, D, oc, m, ms, ssort signs, rs, row, other, rfl, G23.same sm24, hmgood, hmnd, hl6, by omega, hmends, hplain, sm24 _ _ hr23, sm24 _ _ ho23, hmsub, homsub, by omega, by omega, hletF, hssl, hss1, by omega, hpow', fun H25 sm25 => ?_⟩
      rw [first_same, hdd]
      refine ⟨_, rfl, eOT dd, eOT dd, dp_OT dd, dp_OT dd, dep_OT dd, _, rfl, ?_⟩
      rw [enc_OT]
      refine iteNE (decide_eq_true rfl) ?_
      have sm35 := sm24.trans sm25
      refine ⟨_, rfl, _, rfl, _, rfl, _, rfl, g, oc, D, m, ms, ssort signs, rs, other, row, rfl, G23.same sm35, hmgood, hmnd, hl6, by omega, hmends, hplain, sm35 _ _ ho23, sm35 _ _ hr23, homsub, hmsub, by omega, by omega, hletF, hssl, hss1, by omega, hpow', fun H26 sm26 => ?_⟩
      rw [first_same, first_swap, hdd]
      refine ⟨_, rfl, eOT dd, eOT dd, dp_OT dd, dp_OT dd, dep_OT dd, _, rfl, ?_⟩
      rw [enc_OT]
      refine iteNE (decide_eq_true rfl) ?_
      have sm36 := sm35.trans sm26
      cases dd with
      | none =>
        refine ⟨_, rfl, rfl, _, rfl, iteNE (decide_eq_true rfl) (iteF ?_)⟩
        refine ⟨_, rfl, _, rfl, _, rfl, _, rfl, g, D, D, m, ms, ssort signs, rs, row, row, rfl, G23.same sm36, hmgood, hmnd, hl6, by omega, hmends, hplain, sm36 _ _ hr23, sm36 _ _ hr23, hmsub, hmsub, by omega, by omega, hletF, hssl, hss1, by omega, hpow', fun H30 sm30 => ?_⟩
        rw [first_same, first_eq]
        refine ⟨rfl, _, rfl, iteNE (decide_eq_true rfl) ?_⟩
        exact ⟨_, _, _, _, _, _, _, _, _, _, _, _, _, rfl, smF (bt123.same (sm36.trans sm30))⟩
      | some z =>
        refine ⟨_, rfl, rfl, _, rfl, itePos rfl ?_⟩
        obtain ⟨i0, e0, hi0, he0, hpe, hez⟩ := first_parts hdd
        have hok := layF_ok (p := (some row, some other)) (k := 1000) (sg := ssort signs) hgood hss1 ⟨fun r e => by obtain rfl := Option.some.inj e; exact ⟨hsub, by omega⟩, fun r e => by obtain rfl := Option.some.inj e; exact ⟨hosub, by omega⟩⟩ i0 e0 he0
        have hzl : z.length ≤ 90 := by
          have := hok.1
          rw [hez] at this
          omega
        have his := layF_is (p := (some row, some other)) hss1 i0 e0 he0
        rw [hez] at his
        rw [his] at hpe
        have hsh := hmgood.short (by omega)
        refine ⟨_, rfl, _, rfl, _, rfl, g, D, z, ms, rs, row, rfl, G23.same sm36, hmnd, hl6, hmgood.hin, hsh, hmends, hplain, sm36 _ _ hr23, hmsub, by omega, hzl, fun H27 sm27 => ?_⟩
        have sm37 := sm36.trans sm27
        refine ⟨_, rfl, _, rfl, _, rfl, g, oc, z, ms, rs, other, rfl, G23.same sm37, hmnd, hl6, hmgood.hin, hsh, hmends, hplain, sm37 _ _ ho23, homsub, by omega, hzl, fun H28 sm28 => ?_⟩
        have sm38 := sm37.trans sm28
        refine ⟨rfl, _, rfl, ?_⟩
        have ef : decide (V.bl (decide (byLs rs (some row) z = some [])) = V.bl (decide (byLs rs (some other) z = some []))) = false := by
          unfold partsP at hpe
          generalize decide (byLs rs (some row) z = some []) = b1 at hpe ⊢
          generalize decide (byLs rs (some other) z = some []) = b2 at hpe ⊢
          cases b1 <;> cases b2 <;> simp at hpe ⊢
        rw [ef]
        refine iteF ?_
        refine ⟨_, rfl, _, rfl, _, rfl, _, rfl, g, D, D, m, ms, ssort signs, rs, row, row, rfl, G23.same sm38, hmgood, hmnd, hl6, by omega, hmends, hplain, sm38 _ _ hr23, sm38 _ _ hr23, hmsub, hmsub, by omega, by omega, hletF, hssl, hss1, by omega, hpow', fun H30 sm30 => ?_⟩
        rw [first_same, first_eq]
        refine ⟨rfl, _, rfl, iteNE (decide_eq_true rfl) ?_⟩
        exact ⟨_, _, _, _, _, _, _, _, _, _, _, _, _, rfl, smF (bt123.same (sm38.trans sm30))⟩
    · rintro σ' H2 ⟨_, _, _, _, _, _, _, _, _, _, _, _, _, rfl, _⟩
      exact q H2
end
end SG
namespace SG
open PySem PySem.Spec PyProof.Rows L2
theorem all_mk {l : PySem.W.OpenLaw} {w : World} {K : PySem.W.Frag} {h : Heap} {mg : Str → Option Value} {fa f1 f2 f3 f4 f5 f6 f7 f8 f9 f10 f11 f12 f13 f14 f15 f16 f17 f18 f19 f20 f21 f22 f23 f24 f25 f26 f27 f28 f29 f30 f31 f32 f33 f34 f35 f36 f37 C1 : Addr} (X : K.In h) (G : h.Ns mainGlobals mg) (hfa : mg "law" = some (.ref fa))
    {od1 an1 od2 an2 od3 an3 od4 an4 od5 an5 od6 an6 od7 an7 od8 an8 od9 an9 od10 an10 od11 an11 od12 an12 od13 an13 od14 an14 od15 an15 od16 an16 od17 an17 od18 an18 od19 an19 od20 an20 od21 an21 od22 an22 od23 an23 od24 an24 od25 an25 od26 an26 od27 an27 od28 an28 od29 an29 od30 an30 od31 an31 od32 an32 od33 an33 od34 an34 od35 an35 od36 an36 od37 an37 : Option Addr} {sl1 sl2 sl3 sl4 sl5 sl6 sl7 sl8 sl9 sl10 sl11 sl12 sl13 sl14 sl15 sl16 sl17 sl18 sl19 sl20 sl21 sl22 sl23 sl24 sl25 sl26 sl27 sl28 sl29 sl30 sl31 sl32 sl33 sl34 sl35 sl36 sl37 : Array (Option Value)} {oc1 kV1 dc1 pm1 cd1 ct1 oc2 kV2 dc2 pm2 cd2 ct2 oc3 kV3 dc3 pm3 cd3 ct3 oc4 kV4 dc4 pm4 cd4 ct4 oc5 kV5 dc5 pm5 cd5 ct5 oc6 kV6 dc6 pm6 cd6 ct6 oc7 kV7 dc7 pm7 cd7 ct7 oc8 kV8 dc8 pm8 cd8 ct8 oc9 kV9 dc9 pm9 cd9 ct9 oc10 kV10 dc10 pm10 cd10 ct10 oc11 kV11 dc11 pm11 cd11 ct11 oc12 kV12 dc12 pm12 cd12 ct12 oc13 kV13 dc13 pm13 cd13 ct13 oc14 kV14 dc14 pm14 cd14 ct14 oc15 kV15 dc15 pm15 cd15 ct15 oc16 kV16 dc16 pm16 cd16 ct16 oc17 kV17 dc17 pm17 cd17 ct17 oc18 kV18 dc18 pm18 cd18 ct18 oc19 kV19 dc19 pm19 cd19 ct19 oc20 kV20 dc20 pm20 cd20 ct20 oc21 kV21 dc21 pm21 cd21 ct21 oc22 kV22 dc22 pm22 cd22 ct22 oc23 kV23 dc23 pm23 cd23 ct23 oc24 kV24 dc24 pm24 cd24 ct24 oc25 kV25 dc25 pm25 cd25 ct25 oc26 kV26 dc26 pm26 cd26 ct26 oc27 kV27 dc27 pm27 cd27 ct27 oc28 kV28 dc28 pm28 cd28 ct28 oc29 kV29 dc29 pm29 cd29 ct29 oc30 kV30 dc30 pm30 cd30 ct30 oc31 kV31 dc31 pm31 cd31 ct31 oc32 kV32 dc32 pm32 cd32 ct32 oc33 kV33 dc33 pm33 cd33 ct33 oc34 kV34 dc34 pm34 cd34 ct34 oc35 kV35 dc35 pm35 cd35 ct35 oc36 kV36 dc36 pm36 cd36 ct36 oc37 kV37 dc37 pm37 cd37 ct37 : Value}
    {t_SMALL t_MOST_NAMES t_MOST_RULES t_MOST_ROW : Tok}
    (aC1 : PySem.W.nsIn K mainGlobals "Grammar" = some (some (.ref C1))) (pg1 : PySem.W.plainGet K C1 Str.empty = true) (hd1 : PySem.W.hasDictIn K C1 = true) (po1 : PySem.W.plainOver K C1 = true) (sa1 : PySem.W.findIn K (.ref C1) "__setattr__" = some (some (.builtin "object.__setattr__"))) (mk1 : PySem.W.makesIn K C1 = true) (kc1 : PySem.W.keepIn K (.ref C1) = true)
    (n1_known : PySem.W.findIn K (.ref C1) "known" = some none)
    (n1_stored : PySem.W.findIn K (.ref C1) "stored" = some none)
    (n1_order : PySem.W.findIn K (.ref C1) "order" = some none)
    (a1 : PySem.W.nsIn K mainGlobals "is_small" = some (some (.ref f1)))
    (l1 : K.lookup f1 = some ⟨oc1, od1, .func (PySem.W.fnOf "is_small" "is_small" (defArgs s_is_small) (defBody s_is_small) (defScope s_is_small) .none kV1 dc1 pm1 an1 cd1 ct1), sl1⟩) (c1 : PySem.W.codeIn K cd1 "is_small" = true) (k1 : PySem.W.keepIn K (.ref f1) = true)
    (a2 : PySem.W.nsIn K mainGlobals "is_name" = some (some (.ref f2)))
    (l2 : K.lookup f2 = some ⟨oc2, od2, .func (PySem.W.fnOf "is_name" "is_name" (defArgs s_is_name) (defBody s_is_name) (defScope s_is_name) .none kV2 dc2 pm2 an2 cd2 ct2), sl2⟩) (c2 : PySem.W.codeIn K cd2 "is_name" = true) (k2 : PySem.W.keepIn K (.ref f2) = true)
    (a3 : PySem.W.nsIn K mainGlobals "is_letter" = some (some (.ref f3)))
    (l3 : K.lookup f3 = some ⟨oc3, od3, .func (PySem.W.fnOf "is_letter" "is_letter" (defArgs s_is_letter) (defBody s_is_letter) (defScope s_is_letter) .none kV3 dc3 pm3 an3 cd3 ct3), sl3⟩) (c3 : PySem.W.codeIn K cd3 "is_letter" = true) (k3 : PySem.W.keepIn K (.ref f3) = true)
    (a4 : PySem.W.nsIn K mainGlobals "are_names" = some (some (.ref f4)))
    (l4 : K.lookup f4 = some ⟨oc4, od4, .func (PySem.W.fnOf "are_names" "are_names" (defArgs s_are_names) (defBody s_are_names) (defScope s_are_names) .none kV4 dc4 pm4 an4 cd4 ct4), sl4⟩) (c4 : PySem.W.codeIn K cd4 "are_names" = true) (k4 : PySem.W.keepIn K (.ref f4) = true)
    (a5 : PySem.W.findIn K (.ref C1) "__init__" = some (some (.ref f5))) (i5 : PySem.W.isFn K (.ref f5) = true)
    (l5 : K.lookup f5 = some ⟨oc5, od5, .func (PySem.W.fnOf "__init__" "Grammar.__init__" (defArgs s_Grammar___init__) (defBody s_Grammar___init__) (defScope s_Grammar___init__) .none kV5 dc5 pm5 an5 cd5 ct5), sl5⟩) (c5 : PySem.W.codeIn K cd5 "Grammar.__init__" = true) (k5 : PySem.W.keepIn K (.ref f5) = true)
    (a6 : PySem.W.findIn K (.ref C1) "lets_by" = some (some (.ref f6))) (i6 : PySem.W.isFn K (.ref f6) = true)
    (l6 : K.lookup f6 = some ⟨oc6, od6, .func (PySem.W.fnOf "lets_by" "Grammar.lets_by" (defArgs s_Grammar_lets_by) (defBody s_Grammar_lets_by) (defScope s_Grammar_lets_by) .none kV6 dc6 pm6 an6 cd6 ct6), sl6⟩) (c6 : PySem.W.codeIn K cd6 "Grammar.lets_by" = true) (k6 : PySem.W.keepIn K (.ref f6) = true)
    (a7 : PySem.W.findIn K (.ref C1) "names" = some (some (.ref f7))) (i7 : PySem.W.isFn K (.ref f7) = true)
    (l7 : K.lookup f7 = some ⟨oc7, od7, .func (PySem.W.fnOf "names" "Grammar.names" (defArgs s_Grammar_names) (defBody s_Grammar_names) (defScope s_Grammar_names) .none kV7 dc7 pm7 an7 cd7 ct7), sl7⟩) (c7 : PySem.W.codeIn K cd7 "Grammar.names" = true) (k7 : PySem.W.keepIn K (.ref f7) = true)
    (a8 : PySem.W.findIn K (.ref C1) "has" = some (some (.ref f8))) (i8 : PySem.W.isFn K (.ref f8) = true)
    (l8 : K.lookup f8 = some ⟨oc8, od8, .func (PySem.W.fnOf "has" "Grammar.has" (defArgs s_Grammar_has) (defBody s_Grammar_has) (defScope s_Grammar_has) .none kV8 dc8 pm8 an8 cd8 ct8), sl8⟩) (c8 : PySem.W.codeIn K cd8 "Grammar.has" = true) (k8 : PySem.W.keepIn K (.ref f8) = true)
    (a9 : PySem.W.findIn K (.ref C1) "rules_of" = some (some (.ref f9))) (i9 : PySem.W.isFn K (.ref f9) = true)
    (l9 : K.lookup f9 = some ⟨oc9, od9, .func (PySem.W.fnOf "rules_of" "Grammar.rules_of" (defArgs s_Grammar_rules_of) (defBody s_Grammar_rules_of) (defScope s_Grammar_rules_of) .none kV9 dc9 pm9 an9 cd9 ct9), sl9⟩) (c9 : PySem.W.codeIn K cd9 "Grammar.rules_of" = true) (k9 : PySem.W.keepIn K (.ref f9) = true)
    (a10 : PySem.W.findIn K (.ref C1) "rules" = some (some (.ref f10))) (i10 : PySem.W.isFn K (.ref f10) = true)
    (l10 : K.lookup f10 = some ⟨oc10, od10, .func (PySem.W.fnOf "rules" "Grammar.rules" (defArgs s_Grammar_rules) (defBody s_Grammar_rules) (defScope s_Grammar_rules) .none kV10 dc10 pm10 an10 cd10 ct10), sl10⟩) (c10 : PySem.W.codeIn K cd10 "Grammar.rules" = true) (k10 : PySem.W.keepIn K (.ref f10) = true)
    (a11 : PySem.W.nsIn K mainGlobals "look_at_names" = some (some (.ref f11)))
    (l11 : K.lookup f11 = some ⟨oc11, od11, .func (PySem.W.fnOf "look_at_names" "look_at_names" (defArgs s_look_at_names) (defBody s_look_at_names) (defScope s_look_at_names) .none kV11 dc11 pm11 an11 cd11 ct11), sl11⟩) (c11 : PySem.W.codeIn K cd11 "look_at_names" = true) (k11 : PySem.W.keepIn K (.ref f11) = true)
    (a12 : PySem.W.nsIn K mainGlobals "added_up" = some (some (.ref f12)))
    (l12 : K.lookup f12 = some ⟨oc12, od12, .func (PySem.W.fnOf "added_up" "added_up" (defArgs s_added_up) (defBody s_added_up) (defScope s_added_up) .none kV12 dc12 pm12 an12 cd12 ct12), sl12⟩) (c12 : PySem.W.codeIn K cd12 "added_up" = true) (k12 : PySem.W.keepIn K (.ref f12) = true)
    (a13 : PySem.W.nsIn K mainGlobals "norms" = some (some (.ref f13)))
    (l13 : K.lookup f13 = some ⟨oc13, od13, .func (PySem.W.fnOf "norms" "norms" (defArgs s_norms) (defBody s_norms) (defScope s_norms) .none kV13 dc13 pm13 an13 cd13 ct13), sl13⟩) (c13 : PySem.W.codeIn K cd13 "norms" = true) (k13 : PySem.W.keepIn K (.ref f13) = true)
    (a14 : PySem.W.nsIn K mainGlobals "endless" = some (some (.ref f14)))
    (l14 : K.lookup f14 = some ⟨oc14, od14, .func (PySem.W.fnOf "endless" "endless" (defArgs s_endless) (defBody s_endless) (defScope s_endless) .none kV14 dc14 pm14 an14 cd14 ct14), sl14⟩) (c14 : PySem.W.codeIn K cd14 "endless" = true) (k14 : PySem.W.keepIn K (.ref f14) = true)
    (a15 : PySem.W.nsIn K mainGlobals "twice_by" = some (some (.ref f15)))
    (l15 : K.lookup f15 = some ⟨oc15, od15, .func (PySem.W.fnOf "twice_by" "twice_by" (defArgs s_twice_by) (defBody s_twice_by) (defScope s_twice_by) .none kV15 dc15 pm15 an15 cd15 ct15), sl15⟩) (c15 : PySem.W.codeIn K cd15 "twice_by" = true) (k15 : PySem.W.keepIn K (.ref f15) = true)
    (a16 : PySem.W.nsIn K mainGlobals "look_at_tongue" = some (some (.ref f16)))
    (l16 : K.lookup f16 = some ⟨oc16, od16, .func (PySem.W.fnOf "look_at_tongue" "look_at_tongue" (defArgs s_look_at_tongue) (defBody s_look_at_tongue) (defScope s_look_at_tongue) .none kV16 dc16 pm16 an16 cd16 ct16), sl16⟩) (c16 : PySem.W.codeIn K cd16 "look_at_tongue" = true) (k16 : PySem.W.keepIn K (.ref f16) = true)
    (a17 : PySem.W.nsIn K mainGlobals "one_step" = some (some (.ref f17)))
    (l17 : K.lookup f17 = some ⟨oc17, od17, .func (PySem.W.fnOf "one_step" "one_step" (defArgs s_one_step) (defBody s_one_step) (defScope s_one_step) .none kV17 dc17 pm17 an17 cd17 ct17), sl17⟩) (c17 : PySem.W.codeIn K cd17 "one_step" = true) (k17 : PySem.W.keepIn K (.ref f17) = true)
    (a18 : PySem.W.nsIn K mainGlobals "by_letters" = some (some (.ref f18)))
    (l18 : K.lookup f18 = some ⟨oc18, od18, .func (PySem.W.fnOf "by_letters" "by_letters" (defArgs s_by_letters) (defBody s_by_letters) (defScope s_by_letters) .none kV18 dc18 pm18 an18 cd18 ct18), sl18⟩) (c18 : PySem.W.codeIn K cd18 "by_letters" = true) (k18 : PySem.W.keepIn K (.ref f18) = true)
    (a19 : PySem.W.nsIn K mainGlobals "runs_to" = some (some (.ref f19)))
    (l19 : K.lookup f19 = some ⟨oc19, od19, .func (PySem.W.fnOf "runs_to" "runs_to" (defArgs s_runs_to) (defBody s_runs_to) (defScope s_runs_to) .none kV19 dc19 pm19 an19 cd19 ct19), sl19⟩) (c19 : PySem.W.codeIn K cd19 "runs_to" = true) (k19 : PySem.W.keepIn K (.ref f19) = true)
    (a20 : PySem.W.nsIn K mainGlobals "ends_by" = some (some (.ref f20)))
    (l20 : K.lookup f20 = some ⟨oc20, od20, .func (PySem.W.fnOf "ends_by" "ends_by" (defArgs s_ends_by) (defBody s_ends_by) (defScope s_ends_by) .none kV20 dc20 pm20 an20 cd20 ct20), sl20⟩) (c20 : PySem.W.codeIn K cd20 "ends_by" = true) (k20 : PySem.W.keepIn K (.ref f20) = true)
    (a21 : PySem.W.nsIn K mainGlobals "letters_of_both" = some (some (.ref f21)))
    (l21 : K.lookup f21 = some ⟨oc21, od21, .func (PySem.W.fnOf "letters_of_both" "letters_of_both" (defArgs s_letters_of_both) (defBody s_letters_of_both) (defScope s_letters_of_both) .none kV21 dc21 pm21 an21 cd21 ct21), sl21⟩) (c21 : PySem.W.codeIn K cd21 "letters_of_both" = true) (k21 : PySem.W.keepIn K (.ref f21) = true)
    (a22 : PySem.W.nsIn K mainGlobals "pair_key" = some (some (.ref f22)))
    (l22 : K.lookup f22 = some ⟨oc22, od22, .func (PySem.W.fnOf "pair_key" "pair_key" (defArgs s_pair_key) (defBody s_pair_key) (defScope s_pair_key) .none kV22 dc22 pm22 an22 cd22 ct22), sl22⟩) (c22 : PySem.W.codeIn K cd22 "pair_key" = true) (k22 : PySem.W.keepIn K (.ref f22) = true)
    (a23 : PySem.W.nsIn K mainGlobals "pairs_behind" = some (some (.ref f23)))
    (l23 : K.lookup f23 = some ⟨oc23, od23, .func (PySem.W.fnOf "pairs_behind" "pairs_behind" (defArgs s_pairs_behind) (defBody s_pairs_behind) (defScope s_pairs_behind) .none kV23 dc23 pm23 an23 cd23 ct23), sl23⟩) (c23 : PySem.W.codeIn K cd23 "pairs_behind" = true) (k23 : PySem.W.keepIn K (.ref f23) = true)
    (a24 : PySem.W.nsIn K mainGlobals "parting_word" = some (some (.ref f24)))
    (l24 : K.lookup f24 = some ⟨oc24, od24, .func (PySem.W.fnOf "parting_word" "parting_word" (defArgs s_parting_word) (defBody s_parting_word) (defScope s_parting_word) .none kV24 dc24 pm24 an24 cd24 ct24), sl24⟩) (c24 : PySem.W.codeIn K cd24 "parting_word" = true) (k24 : PySem.W.keepIn K (.ref f24) = true)
    (a25 : PySem.W.nsIn K mainGlobals "_law_cell_at" = some (some (.ref f25)))
    (l25 : K.lookup f25 = some ⟨oc25, od25, .func (PySem.W.fnOf "_law_cell_at" "_law_cell_at" (defArgs s__law_cell_at) (defBody s__law_cell_at) (defScope s__law_cell_at) .none kV25 dc25 pm25 an25 cd25 ct25), sl25⟩) (c25 : PySem.W.codeIn K cd25 "_law_cell_at" = true) (k25 : PySem.W.keepIn K (.ref f25) = true)
    (a26 : PySem.W.nsIn K mainGlobals "_law_well" = some (some (.ref f26)))
    (l26 : K.lookup f26 = some ⟨oc26, od26, .func (PySem.W.fnOf "_law_well" "_law_well" (defArgs s__law_well) (defBody s__law_well) (defScope s__law_well) .none kV26 dc26 pm26 an26 cd26 ct26), sl26⟩) (c26 : PySem.W.codeIn K cd26 "_law_well" = true) (k26 : PySem.W.keepIn K (.ref f26) = true)
    (a27 : PySem.W.nsIn K mainGlobals "_law_draw" = some (some (.ref f27)))
    (l27 : K.lookup f27 = some ⟨oc27, od27, .func (PySem.W.fnOf "_law_draw" "_law_draw" (defArgs s__law_draw) (defBody s__law_draw) (defScope s__law_draw) .none kV27 dc27 pm27 an27 cd27 ct27), sl27⟩) (c27 : PySem.W.codeIn K cd27 "_law_draw" = true) (k27 : PySem.W.keepIn K (.ref f27) = true)
    (a28 : PySem.W.nsIn K mainGlobals "_law_one" = some (some (.ref f28)))
    (l28 : K.lookup f28 = some ⟨oc28, od28, .func (PySem.W.fnOf "_law_one" "_law_one" (defArgs s__law_one) (defBody s__law_one) (defScope s__law_one) .none kV28 dc28 pm28 an28 cd28 ct28), sl28⟩) (c28 : PySem.W.codeIn K cd28 "_law_one" = true) (k28 : PySem.W.keepIn K (.ref f28) = true)
    (a29 : PySem.W.nsIn K mainGlobals "_law_names" = some (some (.ref f29)))
    (l29 : K.lookup f29 = some ⟨oc29, od29, .func (PySem.W.fnOf "_law_names" "_law_names" (defArgs s__law_names) (defBody s__law_names) (defScope s__law_names) .none kV29 dc29 pm29 an29 cd29 ct29), sl29⟩) (c29 : PySem.W.codeIn K cd29 "_law_names" = true) (k29 : PySem.W.keepIn K (.ref f29) = true)
    (a30 : PySem.W.nsIn K mainGlobals "_law_signs" = some (some (.ref f30)))
    (l30 : K.lookup f30 = some ⟨oc30, od30, .func (PySem.W.fnOf "_law_signs" "_law_signs" (defArgs s__law_signs) (defBody s__law_signs) (defScope s__law_signs) .none kV30 dc30 pm30 an30 cd30 ct30), sl30⟩) (c30 : PySem.W.codeIn K cd30 "_law_signs" = true) (k30 : PySem.W.keepIn K (.ref f30) = true)
    (a31 : PySem.W.nsIn K mainGlobals "_law_mixed" = some (some (.ref f31)))
    (l31 : K.lookup f31 = some ⟨oc31, od31, .func (PySem.W.fnOf "_law_mixed" "_law_mixed" (defArgs s__law_mixed) (defBody s__law_mixed) (defScope s__law_mixed) .none kV31 dc31 pm31 an31 cd31 ct31), sl31⟩) (c31 : PySem.W.codeIn K cd31 "_law_mixed" = true) (k31 : PySem.W.keepIn K (.ref f31) = true)
    (a32 : PySem.W.nsIn K mainGlobals "_law_rules" = some (some (.ref f32)))
    (l32 : K.lookup f32 = some ⟨oc32, od32, .func (PySem.W.fnOf "_law_rules" "_law_rules" (defArgs s__law_rules) (defBody s__law_rules) (defScope s__law_rules) .none kV32 dc32 pm32 an32 cd32 ct32), sl32⟩) (c32 : PySem.W.codeIn K cd32 "_law_rules" = true) (k32 : PySem.W.keepIn K (.ref f32) = true)
    (a33 : PySem.W.nsIn K mainGlobals "_law_walk" = some (some (.ref f33)))
    (l33 : K.lookup f33 = some ⟨oc33, od33, .func (PySem.W.fnOf "_law_walk" "_law_walk" (defArgs s__law_walk) (defBody s__law_walk) (defScope s__law_walk) .none kV33 dc33 pm33 an33 cd33 ct33), sl33⟩) (c33 : PySem.W.codeIn K cd33 "_law_walk" = true) (k33 : PySem.W.keepIn K (.ref f33) = true)
    (a34 : PySem.W.nsIn K mainGlobals "_law_of" = some (some (.ref f34)))
    (l34 : K.lookup f34 = some ⟨oc34, od34, .func (PySem.W.fnOf "_law_of" "_law_of" (defArgs s__law_of) (defBody s__law_of) (defScope s__law_of) .none kV34 dc34 pm34 an34 cd34 ct34), sl34⟩) (c34 : PySem.W.codeIn K cd34 "_law_of" = true) (k34 : PySem.W.keepIn K (.ref f34) = true)
    (a35 : PySem.W.nsIn K mainGlobals "_law_like" = some (some (.ref f35)))
    (l35 : K.lookup f35 = some ⟨oc35, od35, .func (PySem.W.fnOf "_law_like" "_law_like" (defArgs s__law_like) (defBody s__law_like) (defScope s__law_like) .none kV35 dc35 pm35 an35 cd35 ct35), sl35⟩) (c35 : PySem.W.codeIn K cd35 "_law_like" = true) (k35 : PySem.W.keepIn K (.ref f35) = true)
    (a36 : PySem.W.nsIn K mainGlobals "_law_due" = some (some (.ref f36)))
    (l36 : K.lookup f36 = some ⟨oc36, od36, .func (PySem.W.fnOf "_law_due" "_law_due" (defArgs s__law_due) (defBody s__law_due) (defScope s__law_due) .none kV36 dc36 pm36 an36 cd36 ct36), sl36⟩) (c36 : PySem.W.codeIn K cd36 "_law_due" = true) (k36 : PySem.W.keepIn K (.ref f36) = true)
    (a37 : PySem.W.nsIn K mainGlobals "law" = some (some (.ref f37)))
    (l37 : K.lookup f37 = some ⟨oc37, od37, .func (PySem.W.fnOf "law" "law" (defArgs s_law) (defBody s_law) (defScope s_law) .none kV37 dc37 pm37 an37 cd37 ct37), sl37⟩) (c37 : PySem.W.codeIn K cd37 "law" = true) (k37 : PySem.W.keepIn K (.ref f37) = true)
    (z_SMALL : PySem.W.nsIn K mainGlobals "SMALL" = some (some (.str "abcdefghijklmnopqrstuvwxyz" t_SMALL)))
    (z_MOST_NAMES : PySem.W.nsIn K mainGlobals "MOST_NAMES" = some (some (.int 6 t_MOST_NAMES)))
    (z_MOST_RULES : PySem.W.nsIn K mainGlobals "MOST_RULES" = some (some (.int 4 t_MOST_RULES)))
    (z_MOST_ROW : PySem.W.nsIn K mainGlobals "MOST_ROW" = some (some (.int 3 t_MOST_ROW)))
    (z_len : PySem.W.nsIn K mainGlobals "len" = some none) (z_set : PySem.W.nsIn K mainGlobals "set" = some none) (z_all : PySem.W.nsIn K mainGlobals "all" = some none) (z_list : PySem.W.nsIn K mainGlobals "list" = some none) (z_enumerate : PySem.W.nsIn K mainGlobals "enumerate" = some none) (z_range : PySem.W.nsIn K mainGlobals "range" = some none) (z_sum : PySem.W.nsIn K mainGlobals "sum" = some none) (z_sorted : PySem.W.nsIn K mainGlobals "sorted" = some none) (z_dict : PySem.W.nsIn K mainGlobals "dict" = some none) (z_int : PySem.W.nsIn K mainGlobals "int" = some none) (z_isinstance : PySem.W.nsIn K mainGlobals "isinstance" = some none) (z_tuple : PySem.W.nsIn K mainGlobals "tuple" = some none) (z_max : PySem.W.nsIn K mainGlobals "max" = some none) :
    ∃ fd : FuncData, (∀ (s : Shared) (v : Value), BindsTo s fd ⟨[v], []⟩ [("_law_script", v)]) ∧ ∀ base : Heap, K.In base → base.Ns mainGlobals mg → FnOk l.prog w K mg base CX0 8 fa fd ["_law_script"] (sp_law K) := by
  have e := hfa.symm.trans (PySem.W.mg_of X G a37)
  cases e
  have F1 := fun_mk (st := s_is_small) l1 c1 k1
  have b1 := F1.binds (ps := ["text"]) fun _ _ _ _ _ _ us hl => match us, hl with | [_], _ => rfl
  have F2 := fun_mk (st := s_is_name) l2 c2 k2
  have b2 := F2.binds (ps := ["text"]) fun _ _ _ _ _ _ us hl => match us, hl with | [_], _ => rfl
  have F3 := fun_mk (st := s_is_letter) l3 c3 k3
  have b3 := F3.binds (ps := ["text"]) fun _ _ _ _ _ _ us hl => match us, hl with | [_], _ => rfl
  have F4 := fun_mk (st := s_are_names) l4 c4 k4
  have b4 := F4.binds (ps := ["names"]) fun _ _ _ _ _ _ us hl => match us, hl with | [_], _ => rfl
  have F5 := fun_mk (st := s_Grammar___init__) l5 c5 k5
  have b5 := F5.binds (ps := ["self", "names", "rules"]) fun _ _ _ _ _ _ us hl => match us, hl with | [_, _, _], _ => rfl
  have F6 := fun_mk (st := s_Grammar_lets_by) l6 c6 k6
  have b6 := F6.binds (ps := ["self", "rule"]) fun _ _ _ _ _ _ us hl => match us, hl with | [_, _], _ => rfl
  have F7 := fun_mk (st := s_Grammar_names) l7 c7 k7
  have b7 := F7.binds (ps := ["self"]) fun _ _ _ _ _ _ us hl => match us, hl with | [_], _ => rfl
  have F8 := fun_mk (st := s_Grammar_has) l8 c8 k8
  have b8 := F8.binds (ps := ["self", "name"]) fun _ _ _ _ _ _ us hl => match us, hl with | [_, _], _ => rfl
  have F9 := fun_mk (st := s_Grammar_rules_of) l9 c9 k9
  have b9 := F9.binds (ps := ["self", "name"]) fun _ _ _ _ _ _ us hl => match us, hl with | [_, _], _ => rfl
  have F10 := fun_mk (st := s_Grammar_rules) l10 c10 k10
  have b10 := F10.binds (ps := ["self"]) fun _ _ _ _ _ _ us hl => match us, hl with | [_], _ => rfl
  have F11 := fun_mk (st := s_look_at_names) l11 c11 k11
  have b11 := F11.binds (ps := ["grammar", "row"]) fun _ _ _ _ _ _ us hl => match us, hl with | [_, _], _ => rfl
  have F12 := fun_mk (st := s_added_up) l12 c12 k12
  have b12 := F12.binds (ps := ["norms", "row"]) fun _ _ _ _ _ _ us hl => match us, hl with | [_, _], _ => rfl
  have F13 := fun_mk (st := s_norms) l13 c13 k13
  have b13 := F13.binds (ps := ["grammar"]) fun _ _ _ _ _ _ us hl => match us, hl with | [_], _ => rfl
  have F14 := fun_mk (st := s_endless) l14 c14 k14
  have b14 := F14.binds (ps := ["grammar"]) fun _ _ _ _ _ _ us hl => match us, hl with | [_], _ => rfl
  have F15 := fun_mk (st := s_twice_by) l15 c15 k15
  have b15 := F15.binds (ps := ["grammar"]) fun _ _ _ _ _ _ us hl => match us, hl with | [_], _ => rfl
  have F16 := fun_mk (st := s_look_at_tongue) l16 c16 k16
  have b16 := F16.binds (ps := ["grammar", "rows"]) fun _ _ _ _ _ _ us hl => match us, hl with | [_, _], _ => rfl
  have F17 := fun_mk (st := s_one_step) l17 c17 k17
  have b17 := F17.binds (ps := ["grammar", "row", "letter"]) fun _ _ _ _ _ _ us hl => match us, hl with | [_, _, _], _ => rfl
  have F18 := fun_mk (st := s_by_letters) l18 c18 k18
  have b18 := F18.binds (ps := ["grammar", "row", "word"]) fun _ _ _ _ _ _ us hl => match us, hl with | [_, _, _], _ => rfl
  have F19 := fun_mk (st := s_runs_to) l19 c19 k19
  have b19 := F19.binds (ps := ["grammar", "row", "word"]) fun _ _ _ _ _ _ us hl => match us, hl with | [_, _, _], _ => rfl
  have F20 := fun_mk (st := s_ends_by) l20 c20 k20
  have b20 := F20.binds (ps := ["grammar", "row", "word"]) fun _ _ _ _ _ _ us hl => match us, hl with | [_, _, _], _ => rfl
  have F21 := fun_mk (st := s_letters_of_both) l21 c21 k21
  have b21 := F21.binds (ps := ["grammar", "rows"]) fun _ _ _ _ _ _ us hl => match us, hl with | [_, _], _ => rfl
  have F22 := fun_mk (st := s_pair_key) l22 c22 k22
  have b22 := F22.binds (ps := ["pair"]) fun _ _ _ _ _ _ us hl => match us, hl with | [_], _ => rfl
  have F23 := fun_mk (st := s_pairs_behind) l23 c23 k23
  have b23 := F23.binds (ps := ["grammar", "layer"]) fun _ _ _ _ _ _ us hl => match us, hl with | [_, _], _ => rfl
  have F24 := fun_mk (st := s_parting_word) l24 c24 k24
  have b24 := F24.binds (ps := ["grammar", "one", "other", "most"]) fun _ _ _ _ _ _ us hl => match us, hl with | [_, _, _, _], _ => rfl
  have F25 := fun_mk (st := s__law_cell_at) l25 c25 k25
  have b25 := F25.binds (ps := ["_law_script", "_law_k"]) fun _ _ _ _ _ _ us hl => match us, hl with | [_, _], _ => rfl
  have F26 := fun_mk (st := s__law_well) l26 c26 k26
  have b26 := F26.binds (ps := ["_law_cell"]) fun _ _ _ _ _ _ us hl => match us, hl with | [_], _ => rfl
  have F27 := fun_mk (st := s__law_draw) l27 c27 k27
  have b27 := F27.binds (ps := ["_law_well_here", "_law_many"]) fun _ _ _ _ _ _ us hl => match us, hl with | [_, _], _ => rfl
  have F28 := fun_mk (st := s__law_one) l28 c28 k28
  have b28 := F28.binds (ps := ["_law_well_here", "_law_some"]) fun _ _ _ _ _ _ us hl => match us, hl with | [_, _], _ => rfl
  have F29 := fun_mk (st := s__law_names) l29 c29 k29
  have b29 := F29.binds (ps := ["_law_well_here", "_law_many"]) fun _ _ _ _ _ _ us hl => match us, hl with | [_, _], _ => rfl
  have F30 := fun_mk (st := s__law_signs) l30 c30 k30
  have b30 := F30.binds (ps := ["_law_well_here", "_law_many"]) fun _ _ _ _ _ _ us hl => match us, hl with | [_, _], _ => rfl
  have F31 := fun_mk (st := s__law_mixed) l31 c31 k31
  have b31 := F31.binds (ps := ["_law_well_here", "_law_some"]) fun _ _ _ _ _ _ us hl => match us, hl with | [_, _], _ => rfl
  have F32 := fun_mk (st := s__law_rules) l32 c32 k32
  have b32 := F32.binds (ps := ["_law_well_here", "_law_names_here", "_law_signs_here", "_law_plain", "_law_most"]) fun _ _ _ _ _ _ us hl => match us, hl with | [_, _, _, _, _], _ => rfl
  have F33 := fun_mk (st := s__law_walk) l33 c33 k33
  have b33 := F33.binds (ps := ["_law_rules_here", "_law_row", "_law_word"]) fun _ _ _ _ _ _ us hl => match us, hl with | [_, _, _], _ => rfl
  have F34 := fun_mk (st := s__law_of) l34 c34 k34
  have b34 := F34.binds (ps := ["_law_rules_here", "_law_name"]) fun _ _ _ _ _ _ us hl => match us, hl with | [_, _], _ => rfl
  have F35 := fun_mk (st := s__law_like) l35 c35 k35
  have b35 := F35.binds (ps := ["_law_well_here", "_law_rules_here", "_law_known", "_law_names_here", "_law_name"]) fun _ _ _ _ _ _ us hl => match us, hl with | [_, _, _, _, _], _ => rfl
  have F36 := fun_mk (st := s__law_due) l36 c36 k36
  have b36 := F36.binds (ps := ["_law_rules_here", "_law_one_here", "_law_other", "_law_signs_here", "_law_most"]) fun _ _ _ _ _ _ us hl => match us, hl with | [_, _, _, _, _], _ => rfl
  have F37 := fun_mk (st := s_law) l37 c37 k37
  have T : Txt K mg ⟨C1, f1, PySem.W.fnOf "is_small" "is_small" (defArgs s_is_small) (defBody s_is_small) (defScope s_is_small) .none kV1 dc1 pm1 an1 cd1 ct1, f2, PySem.W.fnOf "is_name" "is_name" (defArgs s_is_name) (defBody s_is_name) (defScope s_is_name) .none kV2 dc2 pm2 an2 cd2 ct2, f3, PySem.W.fnOf "is_letter" "is_letter" (defArgs s_is_letter) (defBody s_is_letter) (defScope s_is_letter) .none kV3 dc3 pm3 an3 cd3 ct3, f4, PySem.W.fnOf "are_names" "are_names" (defArgs s_are_names) (defBody s_are_names) (defScope s_are_names) .none kV4 dc4 pm4 an4 cd4 ct4, f5, PySem.W.fnOf "__init__" "Grammar.__init__" (defArgs s_Grammar___init__) (defBody s_Grammar___init__) (defScope s_Grammar___init__) .none kV5 dc5 pm5 an5 cd5 ct5, f6, PySem.W.fnOf "lets_by" "Grammar.lets_by" (defArgs s_Grammar_lets_by) (defBody s_Grammar_lets_by) (defScope s_Grammar_lets_by) .none kV6 dc6 pm6 an6 cd6 ct6, f7, PySem.W.fnOf "names" "Grammar.names" (defArgs s_Grammar_names) (defBody s_Grammar_names) (defScope s_Grammar_names) .none kV7 dc7 pm7 an7 cd7 ct7, f8, PySem.W.fnOf "has" "Grammar.has" (defArgs s_Grammar_has) (defBody s_Grammar_has) (defScope s_Grammar_has) .none kV8 dc8 pm8 an8 cd8 ct8, f9, PySem.W.fnOf "rules_of" "Grammar.rules_of" (defArgs s_Grammar_rules_of) (defBody s_Grammar_rules_of) (defScope s_Grammar_rules_of) .none kV9 dc9 pm9 an9 cd9 ct9, f10, PySem.W.fnOf "rules" "Grammar.rules" (defArgs s_Grammar_rules) (defBody s_Grammar_rules) (defScope s_Grammar_rules) .none kV10 dc10 pm10 an10 cd10 ct10, f11, PySem.W.fnOf "look_at_names" "look_at_names" (defArgs s_look_at_names) (defBody s_look_at_names) (defScope s_look_at_names) .none kV11 dc11 pm11 an11 cd11 ct11, f12, PySem.W.fnOf "added_up" "added_up" (defArgs s_added_up) (defBody s_added_up) (defScope s_added_up) .none kV12 dc12 pm12 an12 cd12 ct12, f13, PySem.W.fnOf "norms" "norms" (defArgs s_norms) (defBody s_norms) (defScope s_norms) .none kV13 dc13 pm13 an13 cd13 ct13, f14, PySem.W.fnOf "endless" "endless" (defArgs s_endless) (defBody s_endless) (defScope s_endless) .none kV14 dc14 pm14 an14 cd14 ct14, f15, PySem.W.fnOf "twice_by" "twice_by" (defArgs s_twice_by) (defBody s_twice_by) (defScope s_twice_by) .none kV15 dc15 pm15 an15 cd15 ct15, f16, PySem.W.fnOf "look_at_tongue" "look_at_tongue" (defArgs s_look_at_tongue) (defBody s_look_at_tongue) (defScope s_look_at_tongue) .none kV16 dc16 pm16 an16 cd16 ct16, f17, PySem.W.fnOf "one_step" "one_step" (defArgs s_one_step) (defBody s_one_step) (defScope s_one_step) .none kV17 dc17 pm17 an17 cd17 ct17, f18, PySem.W.fnOf "by_letters" "by_letters" (defArgs s_by_letters) (defBody s_by_letters) (defScope s_by_letters) .none kV18 dc18 pm18 an18 cd18 ct18, f19, PySem.W.fnOf "runs_to" "runs_to" (defArgs s_runs_to) (defBody s_runs_to) (defScope s_runs_to) .none kV19 dc19 pm19 an19 cd19 ct19, f20, PySem.W.fnOf "ends_by" "ends_by" (defArgs s_ends_by) (defBody s_ends_by) (defScope s_ends_by) .none kV20 dc20 pm20 an20 cd20 ct20, f21, PySem.W.fnOf "letters_of_both" "letters_of_both" (defArgs s_letters_of_both) (defBody s_letters_of_both) (defScope s_letters_of_both) .none kV21 dc21 pm21 an21 cd21 ct21, f22, PySem.W.fnOf "pair_key" "pair_key" (defArgs s_pair_key) (defBody s_pair_key) (defScope s_pair_key) .none kV22 dc22 pm22 an22 cd22 ct22, f23, PySem.W.fnOf "pairs_behind" "pairs_behind" (defArgs s_pairs_behind) (defBody s_pairs_behind) (defScope s_pairs_behind) .none kV23 dc23 pm23 an23 cd23 ct23, f24, PySem.W.fnOf "parting_word" "parting_word" (defArgs s_parting_word) (defBody s_parting_word) (defScope s_parting_word) .none kV24 dc24 pm24 an24 cd24 ct24, f25, PySem.W.fnOf "_law_cell_at" "_law_cell_at" (defArgs s__law_cell_at) (defBody s__law_cell_at) (defScope s__law_cell_at) .none kV25 dc25 pm25 an25 cd25 ct25, f26, PySem.W.fnOf "_law_well" "_law_well" (defArgs s__law_well) (defBody s__law_well) (defScope s__law_well) .none kV26 dc26 pm26 an26 cd26 ct26, f27, PySem.W.fnOf "_law_draw" "_law_draw" (defArgs s__law_draw) (defBody s__law_draw) (defScope s__law_draw) .none kV27 dc27 pm27 an27 cd27 ct27, f28, PySem.W.fnOf "_law_one" "_law_one" (defArgs s__law_one) (defBody s__law_one) (defScope s__law_one) .none kV28 dc28 pm28 an28 cd28 ct28, f29, PySem.W.fnOf "_law_names" "_law_names" (defArgs s__law_names) (defBody s__law_names) (defScope s__law_names) .none kV29 dc29 pm29 an29 cd29 ct29, f30, PySem.W.fnOf "_law_signs" "_law_signs" (defArgs s__law_signs) (defBody s__law_signs) (defScope s__law_signs) .none kV30 dc30 pm30 an30 cd30 ct30, f31, PySem.W.fnOf "_law_mixed" "_law_mixed" (defArgs s__law_mixed) (defBody s__law_mixed) (defScope s__law_mixed) .none kV31 dc31 pm31 an31 cd31 ct31, f32, PySem.W.fnOf "_law_rules" "_law_rules" (defArgs s__law_rules) (defBody s__law_rules) (defScope s__law_rules) .none kV32 dc32 pm32 an32 cd32 ct32, f33, PySem.W.fnOf "_law_walk" "_law_walk" (defArgs s__law_walk) (defBody s__law_walk) (defScope s__law_walk) .none kV33 dc33 pm33 an33 cd33 ct33, f34, PySem.W.fnOf "_law_of" "_law_of" (defArgs s__law_of) (defBody s__law_of) (defScope s__law_of) .none kV34 dc34 pm34 an34 cd34 ct34, f35, PySem.W.fnOf "_law_like" "_law_like" (defArgs s__law_like) (defBody s__law_like) (defScope s__law_like) .none kV35 dc35 pm35 an35 cd35 ct35, f36, PySem.W.fnOf "_law_due" "_law_due" (defArgs s__law_due) (defBody s__law_due) (defScope s__law_due) .none kV36 dc36 pm36 an36 cd36 ct36⟩ := ⟨⟨pg1, hd1, po1, sa1⟩, PySem.W.mg_of X G aC1, n1_known, n1_stored, n1_order, ⟨mk1, a5, i5, kc1⟩, F1, PySem.W.mg_of X G a1, b1, F2, PySem.W.mg_of X G a2, b2, F3, PySem.W.mg_of X G a3, b3, F4, PySem.W.mg_of X G a4, b4, F5, ⟨a5, i5, k5⟩, b5, F6, ⟨a6, i6, k6⟩, b6, F7, ⟨a7, i7, k7⟩, b7, F8, ⟨a8, i8, k8⟩, b8, F9, ⟨a9, i9, k9⟩, b9, F10, ⟨a10, i10, k10⟩, b10, F11, PySem.W.mg_of X G a11, b11, F12, PySem.W.mg_of X G a12, b12, F13, PySem.W.mg_of X G a13, b13, F14, PySem.W.mg_of X G a14, b14, F15, PySem.W.mg_of X G a15, b15, F16, PySem.W.mg_of X G a16, b16, F17, PySem.W.mg_of X G a17, b17, F18, PySem.W.mg_of X G a18, b18, F19, PySem.W.mg_of X G a19, b19, F20, PySem.W.mg_of X G a20, b20, F21, PySem.W.mg_of X G a21, b21, F22, PySem.W.mg_of X G a22, b22, F23, PySem.W.mg_of X G a23, b23, F24, PySem.W.mg_of X G a24, b24, F25, PySem.W.mg_of X G a25, b25, F26, PySem.W.mg_of X G a26, b26, F27, PySem.W.mg_of X G a27, b27, F28, PySem.W.mg_of X G a28, b28, F29, PySem.W.mg_of X G a29, b29, F30, PySem.W.mg_of X G a30, b30, F31, PySem.W.mg_of X G a31, b31, F32, PySem.W.mg_of X G a32, b32, F33, PySem.W.mg_of X G a33, b33, F34, PySem.W.mg_of X G a34, b34, F35, PySem.W.mg_of X G a35, b35, F36, PySem.W.mg_of X G a36, b36, ⟨_, PySem.W.mg_of X G z_SMALL⟩, ⟨_, PySem.W.mg_of X G z_MOST_NAMES⟩, ⟨_, PySem.W.mg_of X G z_MOST_RULES⟩, ⟨_, PySem.W.mg_of X G z_MOST_ROW⟩, PySem.W.mg_none_of X G z_len, PySem.W.mg_none_of X G z_set, PySem.W.mg_none_of X G z_all, PySem.W.mg_none_of X G z_list, PySem.W.mg_none_of X G z_enumerate, PySem.W.mg_none_of X G z_range, PySem.W.mg_none_of X G z_sum, PySem.W.mg_none_of X G z_sorted, PySem.W.mg_none_of X G z_dict, PySem.W.mg_none_of X G z_int, PySem.W.mg_none_of X G z_isinstance, PySem.W.mg_none_of X G z_tuple, PySem.W.mg_none_of X G z_max⟩
  exact ⟨_, fun s v => .of_eq rfl, fun base _ _ => ok_law F37 T⟩
theorem walk {l : PySem.W.OpenLaw} {q : Program} {loose : List Str} {XP : (Str → Option Value) → Heap → Prop} {YP : World → Heap → Prop} {d : DefRec} {K : Params → PySem.W.Frag} (hn : l.most = some 63) (hdf : d.params.defaults = [])
    (hY : ∀ (w : World) (h : Heap), YP w h → (K w.params).In h)
    (F : ∀ (w : World) (mg : Str → Option Value) (fa : Addr) (h : Heap), (K w.params).In h → h.Ns mainGlobals mg → mg d.name = some (.ref fa) →
      ∃ fd : FuncData, (∀ (s : Shared) (u : Value), BindsTo s fd ⟨[u], []⟩ [("_law_script", u)]) ∧ ∀ base : Heap, (K w.params).In base → base.Ns mainGlobals mg → FnOk l.prog w (K w.params) mg base CX0 8 fa fd ["_law_script"] (sp_law (K w.params))) :
    PySem.W.WalkO q loose XP YP l.row.toRowW d [] (fun f vs => PySem.call f vs) :=
  L2.walk_of (n := 63) (k := 8) (x := "_law_script") (CX := fun _ => CX0) (sp := fun w => sp_law (K w.params)) hn (by decide) hdf ⟨rfl, by decide, by decide⟩ hY F (fun _ _ a ns hl _ hS => ⟨a, ns, rfl, hS, hl, fun _ => rfl⟩) fun _ _ _ _ _ z => z
end SG
open PySem PySem.W PyProof.Rows
set_option maxRecDepth 100000 in
set_option maxHeartbeats 0 in
theorem PySem.Challenge.cw_samegoing_k57_words_that_part_holds : PySem.Challenge.rw_samegoing_k57_words_that_part.Holds := by
  w_on; o_law; k_head; (case hw => w_witness2)
  k_fill
  refine SG.walk (l := PySem.Challenge.rw_samegoing_k57_words_that_part) rfl rfl (fun w h Y => PySem.W.kIn_of Y) ?F
  case F =>
    intro w mg fa h KX G hmg
    refine' SG.all_mk KX G hmg ?aC1 ?pg1 ?hd1 ?po1 ?sa1 ?mk1 ?kc1 ?n1_known ?n1_stored ?n1_order ?a1 ?l1 ?c1 ?k1 ?a2 ?l2 ?c2 ?k2 ?a3 ?l3 ?c3 ?k3 ?a4 ?l4 ?c4 ?k4 ?a5 ?i5 ?l5 ?c5 ?k5 ?a6 ?i6 ?l6 ?c6 ?k6 ?a7 ?i7 ?l7 ?c7 ?k7 ?a8 ?i8 ?l8 ?c8 ?k8 ?a9 ?i9 ?l9 ?c9 ?k9 ?a10 ?i10 ?l10 ?c10 ?k10 ?a11 ?l11 ?c11 ?k11 ?a12 ?l12 ?c12 ?k12 ?a13 ?l13 ?c13 ?k13 ?a14 ?l14 ?c14 ?k14 ?a15 ?l15 ?c15 ?k15 ?a16 ?l16 ?c16 ?k16 ?a17 ?l17 ?c17 ?k17 ?a18 ?l18 ?c18 ?k18 ?a19 ?l19 ?c19 ?k19 ?a20 ?l20 ?c20 ?k20 ?a21 ?l21 ?c21 ?k21 ?a22 ?l22 ?c22 ?k22 ?a23 ?l23 ?c23 ?k23 ?a24 ?l24 ?c24 ?k24 ?a25 ?l25 ?c25 ?k25 ?a26 ?l26 ?c26 ?k26 ?a27 ?l27 ?c27 ?k27 ?a28 ?l28 ?c28 ?k28 ?a29 ?l29 ?c29 ?k29 ?a30 ?l30 ?c30 ?k30 ?a31 ?l31 ?c31 ?k31 ?a32 ?l32 ?c32 ?k32 ?a33 ?l33 ?c33 ?k33 ?a34 ?l34 ?c34 ?k34 ?a35 ?l35 ?c35 ?k35 ?a36 ?l36 ?c36 ?k36 ?a37 ?l37 ?c37 ?k37 ?z_SMALL ?z_MOST_NAMES ?z_MOST_RULES ?z_MOST_ROW ?z_len ?z_set ?z_all ?z_list ?z_enumerate ?z_range ?z_sum ?z_sorted ?z_dict ?z_int ?z_isinstance ?z_tuple ?z_max
    (case aC1 => k_is)
    (case pg1 => k_is)
    (case hd1 => k_is)
    (case po1 => k_is)
    (case sa1 => k_is)
    (case mk1 => k_is)
    (case kc1 => k_is)
    (case n1_known => k_is)
    (case n1_stored => k_is)
    (case n1_order => k_is)
    (case a1 => k_is)
    (case l1 => k_is)
    (case c1 => k_is)
    (case k1 => k_is)
    (case a2 => k_is)
    (case l2 => k_is)
    (case c2 => k_is)
    (case k2 => k_is)
    (case a3 => k_is)
    (case l3 => k_is)
    (case c3 => k_is)
    (case k3 => k_is)
    (case a4 => k_is)
    (case l4 => k_is)
    (case c4 => k_is)
    (case k4 => k_is)
    (case a5 => k_is)
    (case i5 => k_is)
    (case l5 => k_is)
    (case c5 => k_is)
    (case k5 => k_is)
    (case a6 => k_is)
    (case i6 => k_is)
    (case l6 => k_is)
    (case c6 => k_is)
    (case k6 => k_is)
    (case a7 => k_is)
    (case i7 => k_is)
    (case l7 => k_is)
    (case c7 => k_is)
    (case k7 => k_is)
    (case a8 => k_is)
    (case i8 => k_is)
    (case l8 => k_is)
    (case c8 => k_is)
    (case k8 => k_is)
    (case a9 => k_is)
    (case i9 => k_is)
    (case l9 => k_is)
    (case c9 => k_is)
    (case k9 => k_is)
    (case a10 => k_is)
    (case i10 => k_is)
    (case l10 => k_is)
    (case c10 => k_is)
    (case k10 => k_is)
    (case a11 => k_is)
    (case l11 => k_is)
    (case c11 => k_is)
    (case k11 => k_is)
    (case a12 => k_is)
    (case l12 => k_is)
    (case c12 => k_is)
    (case k12 => k_is)
    (case a13 => k_is)
    (case l13 => k_is)
    (case c13 => k_is)
    (case k13 => k_is)
    (case a14 => k_is)
    (case l14 => k_is)
    (case c14 => k_is)
    (case k14 => k_is)
    (case a15 => k_is)
    (case l15 => k_is)
    (case c15 => k_is)
    (case k15 => k_is)
    (case a16 => k_is)
    (case l16 => k_is)
    (case c16 => k_is)
    (case k16 => k_is)
    (case a17 => k_is)
    (case l17 => k_is)
    (case c17 => k_is)
    (case k17 => k_is)
    (case a18 => k_is)
    (case l18 => k_is)
    (case c18 => k_is)
    (case k18 => k_is)
    (case a19 => k_is)
    (case l19 => k_is)
    (case c19 => k_is)
    (case k19 => k_is)
    (case a20 => k_is)
    (case l20 => k_is)
    (case c20 => k_is)
    (case k20 => k_is)
    (case a21 => k_is)
    (case l21 => k_is)
    (case c21 => k_is)
    (case k21 => k_is)
    (case a22 => k_is)
    (case l22 => k_is)
    (case c22 => k_is)
    (case k22 => k_is)
    (case a23 => k_is)
    (case l23 => k_is)
    (case c23 => k_is)
    (case k23 => k_is)
    (case a24 => k_is)
    (case l24 => k_is)
    (case c24 => k_is)
    (case k24 => k_is)
    (case a25 => k_is)
    (case l25 => k_is)
    (case c25 => k_is)
    (case k25 => k_is)
    (case a26 => k_is)
    (case l26 => k_is)
    (case c26 => k_is)
    (case k26 => k_is)
    (case a27 => k_is)
    (case l27 => k_is)
    (case c27 => k_is)
    (case k27 => k_is)
    (case a28 => k_is)
    (case l28 => k_is)
    (case c28 => k_is)
    (case k28 => k_is)
    (case a29 => k_is)
    (case l29 => k_is)
    (case c29 => k_is)
    (case k29 => k_is)
    (case a30 => k_is)
    (case l30 => k_is)
    (case c30 => k_is)
    (case k30 => k_is)
    (case a31 => k_is)
    (case l31 => k_is)
    (case c31 => k_is)
    (case k31 => k_is)
    (case a32 => k_is)
    (case l32 => k_is)
    (case c32 => k_is)
    (case k32 => k_is)
    (case a33 => k_is)
    (case l33 => k_is)
    (case c33 => k_is)
    (case k33 => k_is)
    (case a34 => k_is)
    (case l34 => k_is)
    (case c34 => k_is)
    (case k34 => k_is)
    (case a35 => k_is)
    (case l35 => k_is)
    (case c35 => k_is)
    (case k35 => k_is)
    (case a36 => k_is)
    (case l36 => k_is)
    (case c36 => k_is)
    (case k36 => k_is)
    (case a37 => k_is)
    (case l37 => k_is)
    (case c37 => k_is)
    (case k37 => k_is)
    (case z_SMALL => k_is)
    (case z_MOST_NAMES => k_is)
    (case z_MOST_RULES => k_is)
    (case z_MOST_ROW => k_is)
    (case z_len => k_is)
    (case z_set => k_is)
    (case z_all => k_is)
    (case z_list => k_is)
    (case z_enumerate => k_is)
    (case z_range => k_is)
    (case z_sum => k_is)
    (case z_sorted => k_is)
    (case z_dict => k_is)
    (case z_int => k_is)
    (case z_isinstance => k_is)
    (case z_tuple => k_is)
    (case z_max => k_is)
