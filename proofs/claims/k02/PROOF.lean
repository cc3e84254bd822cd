import PyProof.Rows.All
import Wide.All
import OpenK.AllK
import Wide.FinOn
import HandS.ForMost
import HandS.Flow
import HandS.Style
import HandS.Deep
import HandS.DeepEq
import HandS.DictComp
import HandS.Evl
import HandS.Wide
import KE.SortData
import KE.DataEq
import HandS.Walk
import HandS.Strs
import HandS.SetIn
import HandS.IsInst
import HandS.ExcInit
import HandS.ClsMeth
import HandS.WordsExc
import HandS.ExcIs
import KE.KExcIs
import KE.DataFind
import HandS.Exc
import PySem.Challenge.RW_samegoing_k02_what_is_no_grammar
set_option Elab.async false
set_option linter.all false
set_option maxRecDepth 100000
set_option maxHeartbeats 4000000
/-! rules and short words of my own over the hand layer -/
namespace SG
open PySem PySem.Spec PyProof.Rows L2

/-! ### sorted of data, any length -/
theorem each_of_vals {h : Heap} : ∀ {xs : List V} {us : List Value} {ds : List PyData}, Vals xs us → xs.length = ds.length → PySem.W.EachIs (fun (u : Value) (b : V × PyData) => RelV b.1 u) us (xs.zip ds)
  | [], _, [], .nil, _ => .nil
  | x :: xs, _, d :: ds, .cons r t, hl => .cons r (each_of_vals (h := h) t (by simpa using hl))
theorem each_reads {X : Cx} {pins : List (Addr × Obj)} {σ : L2.St} {H : Hp} {s : Shared} (I : Inv X pins σ H s) : ∀ {xs : List V} {us : List Value} {ds : List PyData}, Vals xs us → DpAll X.K H xs ds →
    PySem.W.EachIs (fun (u : Value) (b : V × PyData) => ∃ as, Reads s.heap u b.2 as) us (xs.zip ds)
  | _, _, _, .nil, .nil => .nil
  | _, _, _, .cons r t, .cons h1 h2 => .cons (Dp.reads I _ _ _ h1 r) (each_reads I t h2)
theorem dpAll_len {K : PySem.W.Frag} {H : Hp} : ∀ {xs : List V} {ds : List PyData}, DpAll K H xs ds → xs.length = ds.length
  | _, _, .nil => rfl
  | _, _, .cons _ t => by rw [List.length_cons, List.length_cons, dpAll_len t]
theorem dpAll_zip {K : PySem.W.Frag} {H : Hp} : ∀ {xs : List V} {ds : List PyData}, DpAll K H xs ds → ∀ p ∈ xs.zip ds, Dp K H p.1 p.2
  | _, _, .nil, p, hp => by simp at hp
  | _, _, .cons h t, p, hp => by
    rw [List.zip_cons_cons] at hp
    rcases List.mem_cons.mp hp with rfl | hp
    · exact h
    · exact dpAll_zip t p hp
theorem dpAll_of_zip {K : PySem.W.Frag} {H : Hp} : ∀ {ps : List (V × PyData)}, (∀ p ∈ ps, Dp K H p.1 p.2) → DpAll K H (ps.map (·.1)) (ps.map (·.2))
  | [], _ => .nil
  | p :: ps, h => .cons (h p (by simp)) (dpAll_of_zip fun q hq => h q (by simp [hq]))
theorem vals_of_each : ∀ {us : List Value} {bs : List (V × PyData)}, PySem.W.EachIs (fun (u : Value) (b : V × PyData) => RelV b.1 u) us bs → Vals (bs.map (·.1)) us
  | _, _, .nil => .nil
  | _, _, .cons r t => .cons r (vals_of_each t)
/-- the sorted data -/
def dsort (ds : List PyData) : List PyData := ds.mergeSort (PySem.W.dataLe false id)
def rSortedX (K : PySem.W.Frag) : List V → Hp → VK → Prop := fun vs H Q => ∃ (a : Addr) (xs : List V) (ds : List PyData), vs = [V.ref a] ∧ SqL K H a xs ∧ DpAll K H xs ds ∧ PySem.W.AllAlike ds ∧ PySem.W.Sortable ds ∧ (∀ d ∈ ds, d.depth ≤ 8) ∧
  ∀ (ys : List V) (p : Addr), DpAll K H ys (dsort ds) → ys.Perm xs → H p = none → Q (.ref p) (upd H p (.lst ys))
theorem cr_sortedX {X : Cx} (hu : X.A.units + 64 < cLine) : CallR X (.builtin "sorted") (rSortedX X.K) := by
  intro pins s σ H vs us Q I r h
  obtain ⟨a, xs, ds, rfl, hs, hd, hal, hso, hdep, q⟩ := h
  obtain ⟨its, rv, hl, hz⟩ := I.list hs
  rw [Vals.ref1 r]
  have hlen := dpAll_len hd
  have hm : (xs.zip ds).map Prod.snd = ds := List.map_snd_zip (by omega)
  have hm1 : (xs.zip ds).map Prod.fst = xs := List.map_fst_zip (by omega)
  refine PySem.W.sorted_data (enc := Prod.snd) hl.isList (each_of_vals (h := s.heap) rv hlen) (each_reads I rv hd) (by rw [hm]; exact hal) (by rw [hm]; exact hso)
    (by rw [List.length_zip]; omega) (fun b hb => ?_) fun out ho hE => ?_
  · have := hdep b.2 (by rw [← hm]; exact List.mem_map_of_mem hb)
    omega
  · obtain ⟨ep, he'⟩ := PyProof.Rows.sortedAll_at s.heap its (List.toArray out)
    have hp := List.mergeSort_perm (xs.zip ds) (PySem.W.dataLe false Prod.snd)
    have e2 : ((xs.zip ds).mergeSort (PySem.W.dataLe false Prod.snd)).map (·.2) = dsort ds := by
      have := PySem.W.sort_maps (r := PySem.W.dataLe false (Prod.snd : V × PyData → PyData)) (s := PySem.W.dataLe false id) (Prod.snd : V × PyData → PyData) (l := xs.zip ds) (fun a _ b _ => rfl)
      rw [hm] at this
      exact this
    have hD : DpAll X.K H (((xs.zip ds).mergeSort (PySem.W.dataLe false Prod.snd)).map (·.1)) (dsort ds) := by
      rw [← e2]
      exact dpAll_of_zip fun p hpp => dpAll_zip hd p (hp.mem_iff.mp hpp)
    have hP : (((xs.zip ds).mergeSort (PySem.W.dataLe false Prod.snd)).map (·.1)).Perm xs := by
      have := hp.map (·.1)
      rw [hm1] at this
      exact this
    have hlenY : (((xs.zip ds).mergeSort (PySem.W.dataLe false Prod.snd)).map (·.1)).length ≤ sizeLine := by rw [hP.length_eq]; exact hz
    exact ⟨.ref _, upd H (s.heap.objs.size + 1) (.lst _), I.laid (t' := s.toks) (fun _ _ => PyProof.Rows.sortedAll_old) (Nat.le_succ _) ⟨hlenY, out, ep, vals_of_each hE, by simpa using he'⟩, rfl, q _ _ hD hP (I.hok.fresh (Nat.le_succ _))⟩

/-! ### == != in, not in of data -/
section
variable {K : PySem.W.Frag} {H : Hp}
mutual
theorem dp_plain : ∀ (d : PyData) (v : V), Dp K H v d → d.plain = true
  | .none, _, _ => by rw [PyData.plain]
  | .bool _, _, _ => by rw [PyData.plain]
  | .int _, _, _ => by rw [PyData.plain]
  | .str _, _, _ => by rw [PyData.plain]
  | .list xs, _, h => by
    cases h with
    | lst _ ha =>
      rw [PyData.plain]
      exact dpAll_plain xs _ ha
  | .tuple xs, _, h => by
    cases h with
    | tup _ ha =>
      rw [PyData.plain]
      exact dpAll_plain xs _ ha
  | .dict _, _, h => by cases h
theorem dpAll_plain : ∀ (ds : List PyData) (vs : List V), DpAll K H vs ds → PyData.plainAll ds = true
  | [], _, _ => by rw [PyData.plainAll]
  | d :: ds, _, h => by
    cases h with
    | cons h1 h2 => rw [PyData.plainAll, dp_plain d _ h1, dpAll_plain ds _ h2]; rfl
end
end
def rEqP (K : PySem.W.Frag) : R2 := fun x y H Q => ∃ d e, Dp K H x d ∧ Dp K H y e ∧ d.depth ≤ 60 ∧ Q (.bl (PyData.eqv d e)) H
def rNeP (K : PySem.W.Frag) : R2 := fun x y H Q => ∃ d e, Dp K H x d ∧ Dp K H y e ∧ d.depth ≤ 60 ∧ Q (.bl (!PyData.eqv d e)) H
theorem op_eqP {X : Cx} (hu : X.A.units + 64 < cLine) : OpR X (compareOp .Eq) (rEqP X.K) := by
  intro pins s σ H x y v u Q I rx ry h
  obtain ⟨d, e, hd, he, sd, q⟩ := h
  obtain ⟨as, r1⟩ := Dp.reads I d x v hd rx
  obtain ⟨bs, r2⟩ := Dp.reads I e y u he ry
  exact SeqAt.eq_plain r1 r2 (dp_plain _ _ hd) (dp_plain _ _ he) (by omega) ⟨.bl _, H, I, rfl, q⟩
theorem op_neP {X : Cx} (hu : X.A.units + 64 < cLine) : OpR X (compareOp .NotEq) (rNeP X.K) := by
  intro pins s σ H x y v u Q I rx ry h
  obtain ⟨d, e, hd, he, sd, q⟩ := h
  obtain ⟨as, r1⟩ := Dp.reads I d x v hd rx
  obtain ⟨bs, r2⟩ := Dp.reads I e y u he ry
  exact SeqAt.ne_plain r1 r2 (dp_plain _ _ hd) (dp_plain _ _ he) (by omega) ⟨.bl _, H, I, rfl, q⟩
/-- x in a list of data | a tuple -/
def rInP (K : PySem.W.Frag) : R2 := fun x y H Q => ∃ d ds, Dp K H x d ∧ (Dp K H y (.list ds) ∨ Dp K H y (.tuple ds)) ∧ d.depth ≤ 60 ∧ Q (.bl (ds.any fun z => PyData.eqv z d)) H
def rNotInP (K : PySem.W.Frag) : R2 := fun x y H Q => ∃ d ds, Dp K H x d ∧ (Dp K H y (.list ds) ∨ Dp K H y (.tuple ds)) ∧ d.depth ≤ 60 ∧ Q (.bl (!ds.any fun z => PyData.eqv z d)) H
theorem op_inP {X : Cx} (hu : X.A.units + 64 < cLine) : OpR X (compareOp .In) (rInP X.K) := by
  intro pins s σ H x y v u Q I rx ry h
  obtain ⟨d, ds, hd, he, sd, q⟩ := h
  obtain ⟨as, r1⟩ := Dp.reads I d x v hd rx
  rcases he with he | he
  · obtain ⟨bs, r2⟩ := Dp.reads I (.list ds) y u he ry
    have hp := dp_plain _ _ he
    rw [PyData.plain] at hp
    exact SeqAt.in_list_data r2 r1 hp (dp_plain _ _ hd) (by omega) ⟨.bl _, H, I, rfl, q⟩
  · obtain ⟨bs, r2⟩ := Dp.reads I (.tuple ds) y u he ry
    have hp := dp_plain _ _ he
    rw [PyData.plain] at hp
    exact SeqAt.in_tuple_data r2 r1 hp (dp_plain _ _ hd) (by omega) ⟨.bl _, H, I, rfl, q⟩
theorem op_notInP {X : Cx} (hu : X.A.units + 64 < cLine) : OpR X (compareOp .NotIn) (rNotInP X.K) := by
  intro pins s σ H x y v u Q I rx ry h
  obtain ⟨d, ds, hd, he, sd, q⟩ := h
  obtain ⟨as, r1⟩ := Dp.reads I d x v hd rx
  rcases he with he | he
  · obtain ⟨bs, r2⟩ := Dp.reads I (.list ds) y u he ry
    have hp := dp_plain _ _ he
    rw [PyData.plain] at hp
    exact SeqAt.notIn_list_data r2 r1 hp (dp_plain _ _ hd) (by omega) ⟨.bl _, H, I, rfl, q⟩
  · obtain ⟨bs, r2⟩ := Dp.reads I (.tuple ds) y u he ry
    have hp := dp_plain _ _ he
    rw [PyData.plain] at hp
    exact SeqAt.notIn_tuple_data r2 r1 hp (dp_plain _ _ hd) (by omega) ⟨.bl _, H, I, rfl, q⟩

/-! ### encodings of plain data: what is equal in Python is equal -/
def Enc {α : Type} [DecidableEq α] (e : α → PyData) : Prop := ∀ a b, PyData.eqv (e a) (e b) = decide (a = b)
theorem enc_str : Enc PyData.str := fun a b => by
  rw [PyData.eqv]
  by_cases h : a = b
  · simp [h]
  · simp [h]
theorem enc_int : Enc PyData.int := fun a b => by
  rw [PyData.eqv]
  by_cases h : a = b
  · simp [h]
  · simp [h]
section
variable {α β γ : Type} [DecidableEq α] [DecidableEq β] [DecidableEq γ] {ea : α → PyData} {eb : β → PyData} {ec : γ → PyData}
def eL {α : Type} (e : α → PyData) (xs : List α) : PyData := .list (xs.map e)
def eT {α : Type} (e : α → PyData) (xs : List α) : PyData := .tuple (xs.map e)
def e2 {α β : Type} (ea : α → PyData) (eb : β → PyData) (p : α × β) : PyData := .tuple [ea p.1, eb p.2]
def e3 {α β γ : Type} (ea : α → PyData) (eb : β → PyData) (ec : γ → PyData) (p : α × β × γ) : PyData := .tuple [ea p.1, eb p.2.1, ec p.2.2]
theorem eqvAll_enc (h : Enc ea) : ∀ xs ys : List α, PyData.eqvAll (xs.map ea) (ys.map ea) = decide (xs = ys)
  | [], [] => by simp [PyData.eqvAll]
  | [], y :: ys => by simp [PyData.eqvAll]
  | x :: xs, [] => by simp [PyData.eqvAll]
  | x :: xs, y :: ys => by
    rw [List.map_cons, List.map_cons, PyData.eqvAll, h x y, eqvAll_enc h xs ys]
    by_cases h1 : x = y <;> by_cases h2 : xs = ys <;> simp [h1, h2]
theorem enc_L (h : Enc ea) : Enc (eL ea) := fun xs ys => by
  unfold eL
  rw [PyData.eqv, eqvAll_enc h]
theorem enc_T (h : Enc ea) : Enc (eT ea) := fun xs ys => by
  unfold eT
  rw [PyData.eqv, eqvAll_enc h]
theorem enc_2 (h : Enc ea) (h' : Enc eb) : Enc (e2 ea eb) := fun x y => by
  unfold e2
  simp only [PyData.eqv, PyData.eqvAll, h x.1 y.1, h' x.2 y.2, Bool.and_true]
  by_cases h1 : x.1 = y.1 <;> by_cases h2 : x.2 = y.2 <;> simp [h1, h2, Prod.ext_iff]
theorem enc_3 (h : Enc ea) (h' : Enc eb) (h'' : Enc ec) : Enc (e3 ea eb ec) := fun x y => by
  unfold e3
  simp only [PyData.eqv, PyData.eqvAll, h x.1 y.1, h' x.2.1 y.2.1, h'' x.2.2 y.2.2, Bool.and_true]
  by_cases h1 : x.1 = y.1 <;> by_cases h2 : x.2.1 = y.2.1 <;> by_cases h3 : x.2.2 = y.2.2 <;> simp [h1, h2, h3, Prod.ext_iff]
theorem any_enc (h : Enc ea) (xs : List α) (a : α) : ((xs.map ea).any fun z => PyData.eqv z (ea a)) = decide (a ∈ xs) := by
  induction xs with
  | nil => rfl
  | cons x r ih =>
    rw [List.map_cons, List.any_cons, ih, h x a]
    by_cases h1 : x = a
    · simp [h1]
    · have h2 : ¬ a = x := fun e => h1 e.symm
      simp [h1, h2]
/-- depths -/
def Dep {α : Type} (e : α → PyData) (n : Nat) : Prop := ∀ a, (e a).depth ≤ n
theorem dep_str : Dep PyData.str 0 := fun a => by rw [PyData.depth]; exact Nat.le_refl _
theorem dep_int : Dep PyData.int 0 := fun a => by rw [PyData.depth]; exact Nat.le_refl _
theorem depAll {n : Nat} (h : Dep ea n) : ∀ xs : List α, PyData.depthAll (xs.map ea) ≤ n
  | [] => by rw [List.map_nil, PyData.depthAll]; exact Nat.zero_le _
  | x :: xs => by rw [List.map_cons, PyData.depthAll]; exact Nat.max_le.mpr ⟨h x, depAll h xs⟩
theorem dep_L {n : Nat} (h : Dep ea n) : Dep (eL ea) (n + 1) := fun xs => by
  unfold eL
  rw [PyData.depth]
  have := depAll h xs
  omega
theorem dep_T {n : Nat} (h : Dep ea n) : Dep (eT ea) (n + 1) := fun xs => by
  unfold eT
  rw [PyData.depth]
  have := depAll h xs
  omega
theorem dep_2 {n m : Nat} (h : Dep ea n) (h' : Dep eb m) : Dep (e2 ea eb) (max n m + 1) := fun p => by
  unfold e2
  simp only [PyData.depth, PyData.depthAll]
  have := h p.1
  have := h' p.2
  omega
theorem dep_3 {n m k : Nat} (h : Dep ea n) (h' : Dep eb m) (h'' : Dep ec k) : Dep (e3 ea eb ec) (max n (max m k) + 1) := fun p => by
  unfold e3
  simp only [PyData.depth, PyData.depthAll]
  have := h p.1
  have := h' p.2.1
  have := h'' p.2.2
  omega
end

/-! ### two dicts of data that are equal -/
def EqEnt (K : PySem.W.Frag) (H : Hp) (ls : List (Key × V)) (p : Key × V) : Prop := ∃ u d e, valV ls p.1 = some u ∧ Dp K H p.2 d ∧ Dp K H u e ∧ d.depth ≤ 60 ∧ PyData.eqv d e = true
theorem hits_data {X : Cx} {pins : List (Addr × Obj)} {σ : L2.St} {H : Hp} {s : Shared} (I : Inv X pins σ H s) (hu : X.A.in1.units + 64 < cLine) {ls : List (Key × V)} {vb : List (Key × Value)} (rb : KV ls vb) :
    ∀ {ks : List (Key × V)} {va : List (Key × Value)}, KV ks va → (∀ p ∈ ks, EqEnt X.K H ls p) → PySem.W.KeqHits X.A.in1 s vb va true := by
  intro ks va ra
  unfold KV at ra
  induction ra with
  | nil => intro _; exact .nil
  | @cons p q ps qs h t k =>
    intro hp
    obtain ⟨h1, h2⟩ := h
    obtain ⟨u, d, e, ev, hd, he, sd, eq⟩ := hp p List.mem_cons_self
    have rr : RelO (some u) (valueAt vb p.1) := by rw [← ev]; exact rb.val p.1
    obtain ⟨y, hy, ry⟩ := rr.some_of
    obtain ⟨key, v⟩ := q
    have h1' : p.1 = key := h1
    rw [h1'] at hy
    obtain ⟨as, r1⟩ := Dp.reads I d _ _ hd h2
    obtain ⟨bs, r2⟩ := Dp.reads I e _ _ he ry
    have ea := SeqAt.eqAt_plain d e X.A.in1 s _ _ _ _ r1 r2 (dp_plain _ _ hd) (dp_plain _ _ he) (by omega)
    rw [eq] at ea
    show PySem.W.KeqHits X.A.in1 s vb ((key, v) :: qs) (true && true)
    exact .hit hy ea (k fun p' hm => hp p' (List.mem_cons_of_mem _ hm))
def rEqW (K : PySem.W.Frag) : R2 := fun x y H Q => ∃ a b ks ls, x = .ref a ∧ y = .ref b ∧ H a = some (.dK ks) ∧ H b = some (.dK ls) ∧ ks.length = ls.length ∧ (∀ p ∈ ks, EqEnt K H ls p) ∧ Q (.bl true) H
def rNeW (K : PySem.W.Frag) : R2 := fun x y H Q => ∃ a b ks ls, x = .ref a ∧ y = .ref b ∧ H a = some (.dK ks) ∧ H b = some (.dK ls) ∧ ks.length = ls.length ∧ (∀ p ∈ ks, EqEnt K H ls p) ∧ Q (.bl false) H
theorem op_eqW {X : Cx} (hu : X.A.units + 65 < cLine) : OpR X (compareOp .Eq) (rEqW X.K) := by
  intro pins s σ H x y v u Q I rx ry h
  obtain ⟨a, b, ks, ls, rfl, rfl, ea, eb, hlen, hp, q⟩ := h
  obtain rfl : v = Value.ref a := rx
  obtain rfl : u = Value.ref b := ry
  obtain ⟨_, ya, va, ra, da⟩ := (show ObjOk X.prog X.w H s.heap a (.dK ks) from I.hok a _ ea)
  obtain ⟨_, yb, vb, rb, db⟩ := (show ObjOk X.prog X.w H s.heap b (.dK ls) from I.hok b _ eb)
  have hl : va.length = vb.length := by rw [← ra.length, ← rb.length]; exact hlen
  have hu1 : X.A.in1.units + 64 < cLine := by show X.A.units + 1 + 64 < cLine; omega
  exact PySem.W.keq_eq (knd := mixKind X.prog X.w) (r := true) ya yb da db (by omega) (fun _ => hits_data I hu1 rb ra hp) ⟨.bl true, H, I, by simp [hl]; rfl, q⟩
theorem op_neW {X : Cx} (hu : X.A.units + 65 < cLine) : OpR X (compareOp .NotEq) (rNeW X.K) := by
  intro pins s σ H x y v u Q I rx ry h
  obtain ⟨a, b, ks, ls, rfl, rfl, ea, eb, hlen, hp, q⟩ := h
  obtain rfl : v = Value.ref a := rx
  obtain rfl : u = Value.ref b := ry
  obtain ⟨_, ya, va, ra, da⟩ := (show ObjOk X.prog X.w H s.heap a (.dK ks) from I.hok a _ ea)
  obtain ⟨_, yb, vb, rb, db⟩ := (show ObjOk X.prog X.w H s.heap b (.dK ls) from I.hok b _ eb)
  have hl : va.length = vb.length := by rw [← ra.length, ← rb.length]; exact hlen
  have hu1 : X.A.in1.units + 64 < cLine := by show X.A.units + 1 + 64 < cLine; omega
  exact PySem.W.keq_ne (knd := mixKind X.prog X.w) (r := true) ya yb da db (by omega) (fun _ => hits_data I hu1 rb ra hp) ⟨.bl false, H, I, by simp [hl]; rfl, q⟩
/-- dict of a list of pairs -/
def rDictP (K : PySem.W.Frag) : List V → Hp → VK → Prop := fun xs H Q => ∃ (a : Addr) (ps : List Addr) (kvs : List (Key × V)), xs = [.ref a] ∧ SqL K H a (ps.map V.ref) ∧ Paired (fun p kv => SqT K H p [kV kv.1, kv.2]) ps kvs ∧
    ∀ p, H p = none → Q (.ref p) (upd H p (.dK (mergeK [] kvs)))
theorem hu64_of {A : Around} {k : Nat} (hr : Room k A) : A.units + 64 < cLine := by have := hr.un; omega
theorem hu65_of {A : Around} {k : Nat} (hr : Room k A) : A.units + 65 < cLine := by have := hr.un; omega
end SG
namespace SG
open PySem PySem.Spec PyProof.Rows L2

/-! ### lists of texts as data -/
section
variable {K : PySem.W.Frag} {H H' : Hp}
theorem dpAll_strs : ∀ xs : List Str, DpAll K H (xs.map V.str) (xs.map PyData.str)
  | [] => .nil
  | x :: r => .cons (.str x) (dpAll_strs r)
theorem of_dpAll_strs : ∀ {ys : List V} {xs : List Str}, DpAll K H ys (xs.map PyData.str) → ys = xs.map V.str
  | _, [], h => by
    cases h
    rfl
  | _, x :: r, h => by
    cases h with
    | cons h1 h2 =>
      cases h1
      rw [of_dpAll_strs h2]
      rfl
theorem dp_strs {a : Addr} {xs : List Str} (h : SqL K H a (xs.map V.str)) : Dp K H (.ref a) (.list (xs.map .str)) := .lst h (dpAll_strs xs)
theorem alike_strs (xs : List Str) : PySem.W.AllAlike (xs.map PyData.str) := PySem.W.AllAlike.of fun _ _ => by rw [PySem.W.alike]
theorem sortable_strs (xs : List Str) : PySem.W.Sortable (xs.map PyData.str) := PySem.W.Sortable.others fun b => ⟨(fun h => by cases h), (fun xs h => by cases h)⟩
/-- texts sorted -/
def ssort (xs : List Str) : List Str := xs.mergeSort fun a b => decide (a.cps.toList ≤ b.cps.toList)
theorem dsort_strs (xs : List Str) : dsort (xs.map .str) = (ssort xs).map .str := by
  unfold dsort ssort
  refine (PySem.W.sort_maps PyData.str fun a _ b _ => ?_).symm
  have e := congrFun (congrFun (PySem.W.dataLe_str (fun x : Str => x)) a) b
  exact e.symm
theorem ssort_perm (xs : List Str) : (ssort xs).Perm xs := List.mergeSort_perm _ _
theorem sle_total : PySem.W.TotalLe (fun a b : Str => decide (a.cps.toList ≤ b.cps.toList)) := by
  have h := PySem.W.sortLe_total (PyProof.Rows.listOrd PyProof.Rows.itemOrd) false fun b : Str => PySem.W.keyToks (.str b)
  have e := PySem.W.dataLe_str (fun x : Str => x)
  unfold PySem.W.dataLe at e
  rw [e] at h
  exact h
theorem ssort_pair (xs : List Str) : (ssort xs).Pairwise fun a b => decide (a.cps.toList ≤ b.cps.toList) = true := PySem.W.sort_pairwise sle_total xs
theorem sle_anti {a b : Str} (h : decide (a.cps.toList ≤ b.cps.toList) = true) (h' : decide (b.cps.toList ≤ a.cps.toList) = true) : a = b :=
  PySem.W.str_of_cps (Std.le_antisymm (of_decide_eq_true h) (of_decide_eq_true h'))
/-- sorted is the same for what is the same but for the order -/
theorem ssort_eq {xs ys : List Str} (h : xs.Perm ys) : ssort xs = ssort ys :=
  ((ssort_perm xs).trans (h.trans (ssort_perm ys).symm)).eq_of_pairwise (fun _ _ _ _ => sle_anti) (ssort_pair xs) (ssort_pair ys)
abbrev eSs : List Str → PyData := eL PyData.str
theorem enc_Ss : Enc eSs := enc_L enc_str
theorem dep_Ss : Dep eSs 1 := dep_L dep_str
theorem dp_Ss {a : Addr} {xs : List Str} (h : H a = some (.lst (xs.map V.str))) : Dp K H (.ref a) (eSs xs) := dp_strs (SqL.of h)
end
/-! ### heaps -/
theorem tyes {σ : L2.St} {H : Hp} {Q : Bool → Hp → Prop} (h : Q true H) : tYes σ H Q := h
/-- a test that says unlike of what is like -/
theorem iteNE {b : Bool} {A B : Prop} (hb : b = true) (h : B) : if (!b) = true then A else B := by
  rw [hb]
  exact iteF h
theorem iteB {b : Bool} {A B : Prop} (h1 : b = true → A) (h2 : b = false → B) : if b = true then A else B := by
  cases b with
  | true => exact iteT (h1 rfl)
  | false => exact iteF (h2 rfl)
theorem lt0 {j : Int} (h : 0 < j := by decide) : 0 < j := h
theorem same_new {H : Hp} {p : Addr} {o : HO} (h : H p = none) : Same H (upd H p o) := fun b x e => by
  rw [upd_ne (ne_of_none e h)]
  exact e
/-- an object that H does not know may change -/
theorem same_mut {H H' : Hp} {p : Addr} {o : HO} (e : Same H H') (h : H p = none) : Same H (upd H' p o) := fun a u ha => by
  rw [upd_ne (ne_of_none ha h)]
  exact e a u ha
theorem sl1 {n : Nat} (h : n ≤ 1000000) : n < sizeLine := by rw [sizeLine_eq]; omega
theorem sl2 {n : Nat} (h : n ≤ 1000000) : n ≤ sizeLine := by rw [sizeLine_eq]; omega
theorem atI_eq {α : Type} {xs : List α} {i : Int} (h0 : 0 ≤ i) (h1 : i < xs.length) : atI xs i = xs[i.toNat]? := by
  obtain ⟨n, rfl⟩ : ∃ n : Nat, i = n := ⟨i.toNat, by omega⟩
  have h : n < xs.length := by omega
  rw [atI_nat (List.getElem?_eq_getElem h)]
  simp [h]
/-- an item at a place within -/
theorem atI_some {α : Type} {xs : List α} {i : Int} (h0 : 0 ≤ i) (h1 : i < xs.length) : ∃ v, atI xs i = some v ∧ v ∈ xs := by
  rw [atI_eq h0 h1]
  have h : i.toNat < xs.length := by omega
  exact ⟨xs[i.toNat], List.getElem?_eq_getElem h, List.getElem_mem h⟩
theorem app_sign (l : List Nat) (c : Nat) : (⟨l.toArray⟩ : Str) ++ (⟨#[c]⟩ : Str) = ⟨(l ++ [c]).toArray⟩ := Str.ext' (by show l.toArray ++ #[c] = _; simp)
theorem dpAll_ints {K : PySem.W.Frag} {H : Hp} : ∀ xs : List Int, DpAll K H (xs.map V.int) (xs.map PyData.int)
  | [] => .nil
  | x :: r => .cons (.int x) (dpAll_ints r)
theorem cut_lt (xs : List V) (n : Nat) : cutV xs none (some (n : Int)) = xs.take n := by
  unfold cutV
  rw [HT.sIx_none, HT.sIx_nat, Nat.sub_zero, List.drop_zero, ← List.take_eq_take_min]
theorem paired_len {α β : Type} {F : α → β → Prop} : ∀ {xs : List α} {ys : List β}, Paired F xs ys → xs.length = ys.length
  | _, _, .nil => rfl
  | _, _, .cons _ t => by rw [List.length_cons, List.length_cons, paired_len t]
theorem lock_same {H H' : Hp} {d : Addr} {u : HO} {od : Obj} (h : H d = some u) (e : Same (upd H d (.frz od u)) H') : Same H (upd H' d u) := fun a o g => by
  by_cases n : a = d
  · subst n
    rw [upd_same, ← h, g]
  · rw [upd_ne n]
    exact e a o (by rw [upd_ne n]; exact g)
theorem find_nd : ∀ {kb : List (Str × List Str)} {i : Nat} {m : Str × List Str}, (kb.map (·.1)).Nodup → kb[i]? = some m → (kb.find? fun x => decide (x.1 = m.1)) = some m
  | [], _, _, _, h => by simp at h
  | x :: r, 0, m, _, h => by
    have e : x = m := Option.some.inj h
    rw [e, List.find?_cons_of_pos (by simp)]
  | x :: r, i + 1, m, nd, h => by
    rw [List.map_cons, List.nodup_cons] at nd
    have hm : m ∈ r := List.mem_of_getElem? h
    rw [List.find?_cons_of_neg, find_nd nd.2 h]
    intro e
    exact nd.1 (by rw [of_decide_eq_true e]; exact List.mem_map_of_mem hm)
theorem mergeK_nd : ∀ {more kvs : List (Key × V)}, (∀ p ∈ more, valV kvs p.1 = none) → (more.map (·.1)).Nodup → mergeK kvs more = kvs ++ more
  | [], kvs, _, _ => by
    rw [List.append_nil]
    rfl
  | p :: more, kvs, h, nd => by
    have e : putK kvs p.1 p.2 = kvs ++ [(p.1, p.2)] := putK_new _ (h p List.mem_cons_self)
    rw [List.map_cons, List.nodup_cons] at nd
    show mergeK (putK kvs p.1 p.2) more = _
    rw [e, mergeK_nd (kvs := kvs ++ [(p.1, p.2)]) (fun q hq => ?_) nd.2, List.append_assoc]
    · rfl
    · rw [valV_snoc _ _ _ _ (h p List.mem_cons_self), if_neg]
      · exact h q (List.mem_cons_of_mem _ hq)
      · intro e
        exact nd.1 (e ▸ List.mem_map_of_mem hq)
/-! ### outs -/
def BaseAt (H : Hp) (kvs : List (Key × V)) (kb : List (Str × List Str)) : Prop := Paired (fun (p : Key × V) (m : Str × List Str) => p.1 = Sum.inr m.1 ∧ ∃ a, p.2 = .ref a ∧ H a = some (.lst (m.2.map V.str))) kvs kb
/-- the making of a name -/
def mk (kb : List (Str × List Str)) (n : Str) : List Str := ((kb.find? fun m => decide (m.1 = n)).map (·.2)).getD [n]
def outs (kb : List (Str × List Str)) (ns : List Str) : List Str := ns.flatMap (mk kb)
theorem baseAt_val {H : Hp} : ∀ {kvs : List (Key × V)} {kb : List (Str × List Str)}, BaseAt H kvs kb → ∀ n : Str,
    (valV kvs (Sum.inr n : Key) = none ∧ (kb.find? fun m => decide (m.1 = n)) = none) ∨ ∃ a ms, valV kvs (Sum.inr n : Key) = some (.ref a) ∧ H a = some (.lst (ms.map V.str)) ∧ ((kb.find? fun m => decide (m.1 = n)).map (·.2)) = some ms ∧ (n, ms) ∈ kb
  | _, _, .nil, n => .inl ⟨rfl, rfl⟩
  | p :: kvs, m :: kb, .cons ⟨h1, a, h2, h3⟩ t, n => by
    by_cases e : m.1 = n
    · refine .inr ⟨a, m.2, ?_, h3, ?_, ?_⟩
      · rw [valV_pos (by rw [h1, e]), h2]
      · rw [List.find?_cons_of_pos (by simpa using e)]
        rfl
      · rw [← e]
        exact List.mem_cons_self
    · rw [valV_neg (by rw [h1]; intro z; exact e (Sum.inr.inj z)), List.find?_cons_of_neg (by simpa using e)]
      rcases baseAt_val t n with h | ⟨b, ms, x1, x2, x3, x4⟩
      · exact .inl h
      · exact .inr ⟨b, ms, x1, x2, x3, List.mem_cons_of_mem _ x4⟩
theorem mk_len {kb : List (Str × List Str)} (h : ∀ m ∈ kb, m.2.length ≤ 4) (n : Str) : (mk kb n).length ≤ 4 := by
  unfold mk
  cases e : kb.find? fun m => decide (m.1 = n) with
  | none => simp
  | some m => simpa using h m (List.mem_of_find?_eq_some e)
theorem outs_len {kb : List (Str × List Str)} (h : ∀ m ∈ kb, m.2.length ≤ 4) : ∀ ns : List Str, (outs kb ns).length ≤ 4 * ns.length
  | [] => Nat.zero_le _
  | n :: r => by
    unfold outs
    rw [List.flatMap_cons, List.length_append]
    have h1 := mk_len h n
    have h2 := outs_len h r
    unfold outs at h2
    rw [List.length_cons]
    omega
theorem outs_snoc (kb : List (Str × List Str)) (ns : List Str) (n : Str) : outs kb (ns ++ [n]) = outs kb ns ++ mk kb n := by
  unfold outs
  simp
theorem take_snoc {α : Type} {xs : List α} {i : Nat} {x : α} (h : xs[i]? = some x) : xs.take (i + 1) = xs.take i ++ [x] := by
  rw [List.take_add_one, h]
  rfl
theorem map_at {α β : Type} {f : α → β} {xs : List α} {i : Nat} {y : β} (h : (xs.map f)[i]? = some y) : ∃ x, xs[i]? = some x ∧ y = f x := by
  rw [List.getElem?_map] at h
  cases e : xs[i]? with
  | none => rw [e] at h; cases h
  | some x => rw [e] at h; exact ⟨x, rfl, (Option.some.inj h).symm⟩
end SG
/-! len(set(texts)), any number of texts -/
namespace SG
open PySem PySem.Spec PyProof.Rows L2
/-- texts, each once -/
def once1 (l : List Str) (x : Str) : List Str := if l.any (· == x) = true then l else l ++ [x]
def once (xs : List Str) : List Str := xs.foldl once1 []
theorem once_snoc (xs : List Str) (x : Str) : once (xs ++ [x]) = once1 (once xs) x := by
  unfold once
  rw [List.foldl_append]
  rfl
theorem once_len : ∀ n (xs : List Str), xs.length = n → (once xs).length ≤ n := by
  intro n
  induction n with
  | zero => intro xs h; rw [List.eq_nil_of_length_eq_zero h]; exact Nat.le_refl _
  | succ n ih =>
    intro xs h
    have hne : xs ≠ [] := by intro e; rw [e] at h; simp at h
    rw [← List.dropLast_concat_getLast hne, once_snoc]
    have h1 := ih xs.dropLast (by rw [List.length_dropLast]; omega)
    unfold once1
    split
    · omega
    · rw [List.length_append, List.length_singleton]; omega
theorem once1_any (l : List Str) (x k : Str) : (once1 l x).any (· == k) = (l.any (· == k) || decide (k = x)) := by
  unfold once1
  by_cases h : l.any (· == x) = true
  · rw [if_pos h]
    by_cases e : k = x
    · subst e; rw [h]; simp
    · simp [e]
  · rw [if_neg h, List.any_append]
    by_cases e : k = x
    · subst e; simp
    · have hb : (x == k) = false := by simpa [beq_iff_eq] using (fun q : x = k => e q.symm)
      simp [hb, e]
theorem once1_len (l : List Str) (x : Str) : (once1 l x).length = if l.any (· == x) then l.length else l.length + 1 := by
  unfold once1; split <;> simp
theorem once_mem : ∀ (xs : List Str) (k : Str), (once xs).any (· == k) = xs.any (· == k) := by
  intro xs k
  have : ∀ (ys l : List Str), (ys.foldl once1 l).any (· == k) = (l.any (· == k) || ys.any (· == k)) := by
    intro ys
    induction ys with
    | nil => intro l; simp
    | cons y r ih =>
      intro l
      rw [List.foldl_cons, ih, once1_any, List.any_cons, Bool.or_assoc]
      congr 2
      by_cases e : k = y
      · subst e; simp
      · have hb : (y == k) = false := by simpa [beq_iff_eq] using (fun q : y = k => e q.symm)
        simp [hb, e]
  rw [show once xs = xs.foldl once1 [] from rfl, this]
  simp
theorem once_nodup : ∀ xs : List Str, (once xs).length = xs.length ↔ xs.Nodup := by
  have key : ∀ n (xs : List Str), xs.length = n → ((once xs).length = xs.length ↔ xs.Nodup) := by
    intro n
    induction n with
    | zero => intro xs h; rw [List.eq_nil_of_length_eq_zero h]; exact ⟨fun _ => List.nodup_nil, fun _ => rfl⟩
    | succ n ih =>
      intro xs h
      have hne : xs ≠ [] := by intro e; rw [e] at h; simp at h
      have hdl : xs.dropLast.length = n := by rw [List.length_dropLast]; omega
      have h1 := ih xs.dropLast hdl
      have h2 := once_len _ xs.dropLast rfl
      generalize hl : xs.dropLast = ys at *
      generalize hg : xs.getLast hne = x at *
      have ex : xs = ys ++ [x] := by rw [← hl, ← hg, List.dropLast_concat_getLast]
      rw [ex, once_snoc, once1_len, once_mem, List.length_append, List.length_singleton]
      by_cases e : ys.any (· == x) = true
      · rw [if_pos e]
        refine ⟨fun q => by omega, fun q => ?_⟩
        obtain ⟨y, hy, ey⟩ := List.any_eq_true.mp e
        rw [eq_of_beq ey] at hy
        rw [List.nodup_append] at q
        exact absurd rfl (q.2.2 x hy x (by simp))
      · rw [if_neg e]
        refine ⟨fun q => ?_, fun q => ?_⟩
        · rw [List.nodup_append]
          refine ⟨h1.mp (by omega), by simp, fun a ha b hb eab => e ?_⟩
          rw [List.mem_singleton.mp hb] at eab
          rw [eab] at ha
          exact List.any_eq_true.mpr ⟨x, ha, by simp⟩
        · rw [List.nodup_append] at q
          have := h1.mpr q.1
          omega
  exact fun xs => key _ xs rfl
section
variable {prog : Program} {w : World} {A : Around} {R : Result → Shared → Prop} {I : Addr} {fp wr : List Addr} {G : Array GenState → Array GenState → Prop} {n : Nat} {P : Nat → Value → Prop} {St : Nat → Shared → Prop}
/-- the loop of set(texts) -/
theorem fill_texts (W : WalksS prog w A.in1 I fp wr G n P St) (S : Addr) (hSf : S ∉ fp) (xs : List Str) (hsz : xs.length = n) (hn : n + 1 < scanBound) (hval : ∀ i v, P i v → ∃ t, v = .str (xs.getD i Str.empty) t) :
    ∀ (m i : Nat) (s : Shared), n - i = m → i ≤ n → St i s → s.heap.SetOf (strKind prog w) S (fun k => (once (xs.take i)).any (· == k)) (once (xs.take i)).length →
      (∀ s', Moved (S :: wr) G s s' → s'.heap.SetOf (strKind prog w) S (fun k => (once (xs.take n)).any (· == k)) (once (xs.take n)).length → R (.ok (.ret .none)) s') →
      codeAny (model prog w) A (.builtin "set.update.loop" ⟨[.ref S, .ref I], []⟩) R s := by
  have hSw : S ∉ wr := fun h => hSf (W.sub _ h)
  have hsub : ∀ b ∈ wr, b ∈ S :: wr := fun b hb => List.mem_cons_of_mem _ hb
  have carry : ∀ {s s' : Shared} {f : Str → Bool} {c : Nat}, Moved wr G s s' → s.heap.SetOf (strKind prog w) S f c → s'.heap.SetOf (strKind prog w) S f c := fun hm ⟨o, es, ep, t, ho, rest⟩ => ⟨o, es, ep, t, hm.heap S _ hSw ho, rest⟩
  intro m
  induction m with
  | zero =>
    intro i s hk hi hst hS hR
    have hin : i = n := by omega
    subst hin
    refine codeAny_builtin PyProof.Rows.F.entry_set_update_loop ?_
    rw [Around.under_plainId PyProof.Rows.F.plain_set_update_loop _]
    show wpAny _ A.in1 (pyNext (.ref I) >>= _) _ _ s
    refine wpAny_bind (W.done s _ _ hst fun s' hm => ?_)
    show wpAny _ A.in1 (ret Value.none) _ _ s'
    exact wpAny_pure (hR s' (hm.mono hsub) (carry hm hS))
  | succ m ih =>
    intro i s hk hi hst hS hR
    have hlt : i < n := by omega
    refine codeAny_builtin PyProof.Rows.F.entry_set_update_loop ?_
    rw [Around.under_plainId PyProof.Rows.F.plain_set_update_loop _]
    show wpAny _ A.in1 (pyNext (.ref I) >>= _) _ _ s
    refine wpAny_bind (W.item i s _ _ hlt hst fun v s' hP hst' hm => ?_)
    obtain ⟨t, rfl⟩ := hval i v hP
    have hS' := carry hm hS
    have hget : xs[i]? = some (xs.getD i Str.empty) := by
      rw [List.getD_eq_getElem?_getD, List.getElem?_eq_getElem (show i < xs.length by omega)]
      rfl
    have hlen : (once (xs.take i)).length ≤ i := Nat.le_trans (once_len _ _ rfl) (by rw [List.length_take]; omega)
    show wpAny _ A.in1 (holding [Value.str (xs.getD i Str.empty) t] (setAdd S (.str (xs.getD i Str.empty) t)) >>= _) _ _ s'
    refine wpAny_bind (wpAny_holding ?_)
    unfold setAdd
    refine wpAny_holding ?_
    refine wpAny_bind ((strKind prog w).pyHash (k := xs.getD i Str.empty) (strKind_is _ _ _ _) ?_)
    refine wpAny_setAddHashed_of (knd := strKind prog w) (s := { s' with toks := s'.toks + 1 }) (strKind_is _ _ _ _) rfl hS' (by omega) fun h' hsb hS2 => ?_
    have hSi : h'.SetOf (strKind prog w) S (fun k => (once (xs.take (i + 1))).any (· == k)) (once (xs.take (i + 1))).length :=
      SetOf_congr hS2 (fun k => by rw [take_snoc hget, once_snoc, once1_any]) (by rw [take_snoc hget, once_snoc, once1_len])
    refine wpAny_pure ⟨plainId_quiet PyProof.Rows.F.plain_set_update_loop _, ih (i + 1) _ (by omega) hlt (W.frame _ s' _ _ hst' (Nat.le_succ _) fun b hb o e => ?_) hSi fun s'' hm'' hS'' => ?_⟩
    · rw [hsb.2 b (fun h : b = S => hSf (by rw [← h]; exact hb))]; exact e
    · refine hR s'' (Moved.trans W.gtrans ((hm.mono hsub).then_heap (Nat.le_succ _) fun b o hb e => ?_) hm'') hS''
      rw [hsb.2 b (fun h : b = S => hb (by rw [h]; exact List.mem_cons_self))]; exact e
end
section
variable {prog : Program} {w : World} {A : Around} {E : Value → Shared → Prop} {s : Shared}
theorem call_set_texts {l : Addr} {items : Array Value} {xs : List Str} {Q : Value → Shared → Prop} (hh : A.handled = none) (hl : s.heap.IsList l items) (hi : PyProof.Rows.StrsAre items.toList xs) (hn1 : items.size + 1 < scanBound)
    (h : ∀ (h' : Heap) (tk : Nat), h'.SetOf (strKind prog w) s.heap.objs.size (fun k => (once xs).any (· == k)) (once xs).length → (∀ b o, b < s.heap.objs.size → s.heap.get? b = some o → h'.get? b = some o) → Q (.ref s.heap.objs.size) { s with heap := h', toks := tk }) :
    wpAny (model prog w) A (call (.type "set") [.ref l]) Q E s := by
  obtain ⟨c, tl, hmro⟩ := PySem.F.called_set.mro
  have hmade := PySem.F.called_set.made
  have hsub := PySem.F.called_set.sub
  have hsz : xs.length = items.size := by rw [← StrsAre.len_eq hi, Array.length_toList]
  have htk : xs.take items.size = xs := List.take_of_length_le (by omega)
  refine wpAny_call (codeAny_of_tree ?_)
  show wpAny _ _ (callAny (.type "set") _) _ _ _
  refine wpAny_pure ⟨Code.quiet_builtin _ (by decide +kernel), codeAny_builtin PySem.F.entry_type_call ?_⟩
  rw [Around.under_plain (weight_type_call_type "set" [.ref l] []) rfl]
  have h1 := PySem.F.called_set.notType
  have h2 := PySem.F.called_set.canCreate
  have hct := PySem.F.typeCall_set_1 (.ref l)
  repeat (any_goals (first | assumption | wp_step))
  refine codeAny_mono (code_set_new_1 (.ref l) (E := E) (Q₁ := fun obj s₁ => ∃ led : Bool, obj = .ref s.heap.objs.size ∧ s₁ = { s with heap := s.heap.push { cls := .type "set", dict := none, data := .set #[] 0 (.fresh 0 0 led) } }) fun led => ⟨led, rfl, rfl⟩) fun r s₁ hr => ?_
  cases r with
  | error e => exact hr
  | ok fl =>
    cases fl with
    | ret obj =>
      obtain ⟨led, rfl, rfl⟩ := hr
      have hS : (s.heap.push { cls := .type "set", dict := none, data := .set #[] 0 (.fresh 0 0 led) }).get? s.heap.objs.size = some { cls := .type "set", dict := none, data := .set #[] 0 (.fresh 0 0 led) } := Heap.get?_push_size _ rfl
      have hT : Shared.TypeIs { s with heap := s.heap.push { cls := .type "set", dict := none, data := .set #[] 0 (.fresh 0 0 led) } } (.ref s.heap.objs.size) "set" := ⟨_, hS, rfl⟩
      have hli := PySem.F.called_set.init.lookup
      have hbi := PySem.F.called_set.init.bind (.ref s.heap.objs.size)
      repeat (any_goals (first | assumption | wp_step))
      refine codeAny_mono (codeAny_call_builtin (R := wants (fun r s₂ => r = .none ∧ ∃ h' tk, s₂ = { s with heap := h', toks := tk } ∧
          h'.SetOf (strKind prog w) s.heap.objs.size (fun k => (once xs).any (· == k)) (once xs).length ∧
          (∀ b o, b < s.heap.objs.size → s.heap.get? b = some o → h'.get? b = some o)) E) PySem.F.called_set.init.plain PySem.F.entry_set_init (check_set_init_1 hT ?_)) fun r₂ s₂ hr₂ => ?_
      · obtain ⟨ol, hol, hcl, nl, hdl⟩ := hl
        obtain ⟨ocls, odict, odata, oslots⟩ := ol
        simp only at hcl hdl
        subst hcl; subst hdl
        have hol' : (s.heap.push { cls := .type "set", dict := none, data := .set #[] 0 (.fresh 0 0 led) }).get? l = some { cls := .type "list", dict := odict, data := .seq items nl, slots := oslots } := Heap.get?_push_of_some _ hol
        have hsls := PySem.F.sub_list_set
        have hslf := PySem.F.sub_list_frozenset
        have hne : (Value.type "list" == Value.type "dict") = false := by decide
        have hl1 : (s.heap.push { cls := .type "set", dict := none, data := .set #[] 0 (.fresh 0 0 led) }).IsList l items := ⟨_, hol', rfl, nl, rfl⟩
        unfold Builtin.«set.__init__» noKeywords Builtin.Frozenset.updateFrom
        generalize hPI : pyIter = PI
        wp_walk
        subst hPI
        refine wpAny_pyIter_list hl1 ?_
        refine wpAny_bind (wpAny_runValue ?_)
        have hlS : l < s.heap.objs.size := Heap.lt_size hol
        have hh3 : A.in1.in1.in1.handled = none := by simp [hh]
        have hneI : l ≠ (s.heap.push { cls := .type "set", dict := none, data := .set #[] 0 (.fresh 0 0 led) }).objs.size := by
          rw [Heap.size_push]; exact Nat.ne_of_lt (Nat.lt_succ_of_lt hlS)
        have hSf : s.heap.objs.size ∉ [(s.heap.push { cls := .type "set", dict := none, data := .set #[] 0 (.fresh 0 0 led) }).objs.size, l] := by
          rw [Heap.size_push]; simp only [List.mem_cons, List.mem_singleton, List.not_mem_nil, or_false, not_or]
          exact ⟨Nat.ne_of_lt (Nat.lt_succ_self _), Nat.ne_of_gt hlS⟩
        have hval : ∀ (i : Nat) (v : Value), items[i]? = some v → ∃ t, v = .str (xs.getD i Str.empty) t := fun i v hv => SS.strs_at hi i v (by rw [Array.getElem?_toList]; exact hv)
        refine fill_texts ((Walks.list hh3 _ l hneI items).toS) s.heap.objs.size hSf xs hsz hn1 hval (items.size - 0) 0 _ (by omega) (Nat.zero_le _) ⟨⟨_, Heap.get?_push_size _ rfl, rfl, rfl⟩, (hl1.push _)⟩ ?hS0 ?hR
        case hS0 =>
          have hget : ((s.heap.push { cls := .type "set", dict := none, data := .set #[] 0 (.fresh 0 0 led) }).push { cls := .type "list_iterator", data := .fields #[.ref l, .int 0 0] }).get? s.heap.objs.size
              = some { cls := .type "set", dict := none, data := .set #[] 0 (.fresh 0 0 led) } := Heap.get?_push_of_some _ hS
          exact PyProof.Rows.SetOf_congr ((PyProof.Rows.setObjOf_fresh (knd := strKind prog w) led).setOf hget (by unfold scanBound; omega)) (fun _ => rfl) rfl
        case hR =>
          intro s' hm hS'
          rw [htk] at hS'
          obtain ⟨h', g', d', tk', os'⟩ := s'
          have eg : g' = s.gens := hm.gens
          have ed : d' = s.drawn := hm.drawn
          have eo : os' = s.os := hm.os
          subst eg; subst ed; subst eo
          show wpAny _ _ _ _ _ _
          refine wpAny_pure ?_
          show wpAny _ _ (ret Value.none) _ _ _
          refine wpAny_pure ⟨rfl, h', tk', rfl, hS', fun b o hb e => ?_⟩
          have hb1 : b ≠ s.heap.objs.size := Nat.ne_of_lt hb
          have hb2 : b ≠ (s.heap.push { cls := .type "set", dict := none, data := .set #[] 0 (.fresh 0 0 led) }).objs.size := by
            rw [Heap.size_push]; exact Nat.ne_of_lt (Nat.lt_succ_of_lt hb)
          exact hm.heap b o (by simp only [List.mem_cons, List.mem_singleton, List.not_mem_nil, or_false, not_or]; exact ⟨hb1, hb2⟩) (Heap.get?_push_of_some _ (Heap.get?_push_of_some _ e))
      · cases r₂ with
        | error e => exact hr₂
        | ok fl₂ =>
          cases fl₂ with
          | ret r =>
            obtain ⟨rfl, h', tk, rfl, hS', hk'⟩ := hr₂
            repeat (any_goals (first | assumption | wp_step))
            exact h _ _ hS' hk'
          | _ => exact hr₂.elim
    | _ => exact hr.elim
end
section
variable {X : Cx}
def tLenSetS (K : PySem.W.Frag) (ta : TE) : TE := fun σ H Q => ta σ H fun x H1 => ∃ (l : Addr) (xs : List Str), x = .ref l ∧ SqL K H1 l (xs.map V.str) ∧ xs.length ≤ 1000 ∧ Q (.int ((once xs).length : Nat)) H1
theorem pe_lenSetS {a : Expr} {ta : TE} {p p2 q pos : Pos} (hg : Gl X "len") (hm : X.mg "len" = none) (hg2 : Gl X "set") (hm2 : X.mg "set" = none) (ha : PE X a ta) (hc : X.calm = true := by rfl)
    (na : starEach [a] X.env = (false, eval a X.env) :: starEach [] X.env := by rfl) : PE X (.Call (.Name "len" p) [.Call (.Name "set" p2) [a] [] q] [] pos) (tLenSetS X.K ta) := by
  refine ⟨fun pins s σ H Q I h => ?_⟩
  refine Call_ (ld_blt I hg hm boot_len ?_)
  refine PyProof.Rows.callWith_builtin1 (PyProof.Rows.args_cons ?_ rfl) rfl rfl
  refine Call_ (ld_blt I hg2 hm2 boot_set ?_)
  refine PyProof.Rows.callWith_type1 (PyProof.Rows.args_cons (thn (ha.run pins s σ H _ I h) fun v s1 ⟨x, H1, I1, r1, q1⟩ => PyProof.Rows.args_nil ?_) na) na rfl
  obtain ⟨l, xs, rfl, hq, h1, q1⟩ := q1
  cases r1
  obtain ⟨its, r, pl, hz⟩ := I1.list hq
  have hlen : its.toArray.size = xs.length := by rw [List.size_toArray, ← r.length, List.length_map]
  have h2 := once_len _ xs rfl
  refine call_set_texts (I1.ok.hd hc) pl.isList (by simpa using r.strs) (by rw [hlen]; unfold scanBound; omega) fun h' tk hS hk => ?_
  refine PyProof.Rows.args_nil ?_
  obtain ⟨o, es, ep, t, ho, hex, hd, _, _, _, hf, hn⟩ := hS
  have I2 : Inv X pins σ H1 { s1 with heap := h', toks := tk } := I1.kept fun b o e => hk b o (Heap.lt_size e) e
  exact PySem.call_len_set ho hex hd hf (by rw [hn] <;> omega) ⟨.int (once xs).length, H1, I2.tok _, ⟨_, by rw [hn]⟩, q1⟩
end
end SG
/-! grammars: data, and how an instance bears it -/
namespace SG
open PySem PySem.Spec PyProof.Rows L2
/-! ### comprehensions of scalars -/
theorem lc_scal {K : PySem.W.Frag} {a D : Addr} {xs ys : List V} {j : Nat} {te : TE} {vs : List Nat} {σ : L2.St} {H : Hp} {Qd : Hp → Prop} (hx : SqL K H a xs) (hD : H D = none) (hl : ys.length = xs.length) (hz : xs.length ≤ 1000000) (hw : ∀ x, wipe ((wipe σ vs).set j (some x)) vs = wipe σ vs)
    (he : ∀ (i : Nat) (x y : V) (H' : Hp) (Q' : VK), xs[i]? = some x → ys[i]? = some y → Same H H' → (∀ H'', Same H' H'' → Q' y H'') → te ((wipe σ vs).set j (some x)) H' Q')
    (hd : ∀ H', Same H H' → H' D = some (.lst ys) → Qd H') :
    ∃ W : Nat → Nat → Hp → Prop, (∃ m, W 0 m (upd H D (.lst []))) ∧ ∀ i m H, W i m H →
      ((Itl K a).stop i H ∧ Qd H) ∨ ((Itl K a).go i H ∧ ∃ Nx : Hp → Prop, (∀ H', Nx H' → ∃ m', m' < m ∧ W (i + 1) m' H') ∧ ∀ x H', (Itl K a).yld i H x H' → gName j x (wipe σ vs) H' fun σ2 H2 => wipe σ2 vs = wipe σ vs ∧ tYes σ2 H2 fun b H3 =>
        if b = true then te σ2 H3 fun y H4 => ∃ acc, H4 D = some (.lst acc) ∧ acc.length < sizeLine ∧ Nx (upd H4 D (.lst (acc ++ [y]))) else Nx H3) := by
  refine lc_list (xs := xs) (fun i H' => Same H H' ∧ H' D = some (.lst (ys.take i))) ⟨same_new hD, upd_same⟩ (fun i H' _ p => p.1.seq hx) (fun i x H' hi p => ?_) (fun H' p => hd H' p.1 (by rw [p.2, List.take_of_length_le (by omega)]))
  have hlt := (List.getElem?_eq_some_iff.mp hi).1
  have hy : ys[i]? = some (ys[i]'(by omega)) := List.getElem?_eq_getElem (by omega)
  refine ⟨hw x, tyes (iteT ?_)⟩
  refine he i x _ H' _ hi hy p.1 fun H'' e => ⟨_, e _ _ p.2, sl1 (by rw [List.length_take]; omega), same_mut (p.1.trans e) hD, ?_⟩
  rw [upd_same, take_snoc hy]
/-- the same over a text's signs -/
theorem lc_scalS {D : Addr} {z : Str} {ys : List V} {j : Nat} {te : TE} {vs : List Nat} {σ : L2.St} {H : Hp} {Qd : Hp → Prop} (hD : H D = none) (hl : ys.length = z.length) (hz : z.length ≤ 1000000) (hw : ∀ x, wipe ((wipe σ vs).set j (some x)) vs = wipe σ vs)
    (he : ∀ (i : Nat) (c : Nat) (y : V) (H' : Hp) (Q' : VK), z.cps.toList[i]? = some c → ys[i]? = some y → Same H H' → (∀ H'', Same H' H'' → Q' y H'') → te ((wipe σ vs).set j (some (.str ⟨#[c]⟩))) H' Q')
    (hd : ∀ H', Same H H' → H' D = some (.lst ys) → Qd H') :
    ∃ W : Nat → Nat → Hp → Prop, (∃ m, W 0 m (upd H D (.lst []))) ∧ ∀ i m H, W i m H →
      ((Its z).stop i H ∧ Qd H) ∨ ((Its z).go i H ∧ ∃ Nx : Hp → Prop, (∀ H', Nx H' → ∃ m', m' < m ∧ W (i + 1) m' H') ∧ ∀ x H', (Its z).yld i H x H' → gName j x (wipe σ vs) H' fun σ2 H2 => wipe σ2 vs = wipe σ vs ∧ tYes σ2 H2 fun b H3 =>
        if b = true then te σ2 H3 fun y H4 => ∃ acc, H4 D = some (.lst acc) ∧ acc.length < sizeLine ∧ Nx (upd H4 D (.lst (acc ++ [y]))) else Nx H3) := by
  refine lc_it walk_str (fun i H' => Same H H' ∧ H' D = some (.lst (ys.take i))) ⟨same_new hD, upd_same⟩ (fun i H' _ p => trivial) (fun i x H' H2 hi p hy => ?_) (fun H' p => hd H' p.1 (by rw [p.2, List.take_of_length_le (by rw [hl]; exact Nat.le_refl _)]))
  obtain ⟨rfl, c, hc, rfl⟩ := hy
  have hlt : i < z.length := hi
  have hy : ys[i]? = some (ys[i]'(by omega)) := List.getElem?_eq_getElem (by omega)
  refine ⟨hw _, tyes (iteT ?_)⟩
  refine he i c _ H2 _ (by rw [Array.getElem?_toList]; exact hc) hy p.1 fun H'' e => ⟨_, e _ _ p.2, sl1 (by rw [List.length_take]; omega), same_mut (p.1.trans e) hD, ?_⟩
  rw [upd_same, take_snoc hy]
theorem map_get {α β : Type} {f : α → β} {xs : List α} {i : Nat} {x : α} {y : β} (h : xs[i]? = some x) (h' : (xs.map f)[i]? = some y) : y = f x := by
  rw [List.getElem?_map, h] at h'
  exact (Option.some.inj h').symm

theorem paired_app {α β : Type} {F : α → β → Prop} {y : α} {z : β} (h : F y z) : ∀ {xs : List α} {ys : List β}, Paired F xs ys → Paired F (xs ++ [y]) (ys ++ [z])
  | _, _, .nil => .cons h .nil
  | _, _, .cons h1 t => .cons h1 (paired_app h t)
theorem putK_le (kvs : List (Key × V)) (k : Key) (v : V) : (putK kvs k v).length ≤ kvs.length + 1 := by
  unfold putK
  split
  · rw [List.length_map]; omega
  · rw [List.length_append]; exact Nat.le_refl _

/-! ### names, letters -/
abbrev abcS : Str := "abcdefghijklmnopqrstuvwxyz"
theorem abcL : abcS.cps.toList = (List.range 26).map (97 + ·) := by decide +kernel
def isSmall (x : Str) : Bool := x.cps.toList.all fun c => decide (c ∈ abcS.cps.toList)
def isName (x : Str) : Bool := decide (1 ≤ x.length) && decide (x.length ≤ 8) && isSmall x && decide (x ≠ ("names" : Str))
def isLetter (x : Str) : Bool := decide (x.length = 1) && isSmall x
def areNames (xs : List Str) : Bool := decide (1 ≤ xs.length) && decide (xs.length ≤ 6) && decide (xs.Nodup) && xs.all isName
abbrev Rule := Str × Str × List Str
/-- the rules of a name, in their order -/
def rulesOf (rs : List Rule) (n : Str) : List (Str × List Str) := (rs.filter fun r => decide (r.1 = n)).map (·.2)
def letsBy (names : List Str) (rs : List Rule) (r : Rule) : Bool :=
  decide (r.1 ∈ names) && isLetter r.2.1 && decide (r.2.2.length ≤ 3) && r.2.2.all (fun x => decide (x ∈ names)) && decide ((rulesOf rs r.1).length < 4) && decide (r.2 ∉ rulesOf rs r.1)
/-- all rules are let by, one behind the other -/
def rulesOk (names : List Str) (rs : List Rule) : Prop := ∀ i r, rs[i]? = some r → letsBy names (rs.take i) r = true
theorem rulesOf_snoc (rs : List Rule) (r : Rule) (n : Str) : rulesOf (rs ++ [r]) n = if r.1 = n then rulesOf rs n ++ [r.2] else rulesOf rs n := by
  unfold rulesOf
  rw [List.filter_append, List.map_append]
  by_cases e : r.1 = n
  · rw [if_pos e]; simp [e]
  · rw [if_neg e]; simp [e]

/-! ### how an instance bears it -/
def RuleAt (H : Hp) (t : Addr) (p : Str × List Str) : Prop := ∃ w, H t = some (.tup [.str p.1, .ref w]) ∧ H w = some (.lst (p.2.map V.str))
def ListAt (H : Hp) (l : Addr) (ps : List (Str × List Str)) : Prop := ∃ ts : List Addr, H l = some (.lst (ts.map V.ref)) ∧ Paired (RuleAt H) ts ps
def zipK (names : List Str) (ls : List Addr) : List (Key × V) := List.zipWith (fun n l => ((Sum.inr n : Key), V.ref l)) names ls
def StoredAt (H : Hp) (st : Addr) (names : List Str) (ls : List Addr) (f : Str → List (Str × List Str)) : Prop := H st = some (.dK (zipK names ls)) ∧ Paired (fun n l => ListAt H l (f n)) names ls ∧ ls.Nodup
def gfs (kn st od : Addr) : List (Str × V) := putF "order" (.ref od) (putF "stored" (.ref st) (putF "known" (.ref kn) []))
structure GramAt (C : Addr) (H : Hp) (g : Addr) (names : List Str) (rs : List Rule) : Prop where
  ex : ∃ dx kn st od ls, H g = some (.ins C dx (gfs kn st od)) ∧ H kn = some (.lst (names.map V.str)) ∧ StoredAt H st names ls (rulesOf rs) ∧ H od = some (.lst ((rs.map (·.1)).map V.str))
theorem k_so : ¬ (("stored" : Str) = "order") := by decide +kernel
theorem k_ko : ¬ (("known" : Str) = "order") := by decide +kernel
theorem k_ks : ¬ (("known" : Str) = "stored") := by decide +kernel
theorem gfs_known (kn st od : Addr) : (gfs kn st od).lookup ("known" : Str) = some (.ref kn) := by
  unfold gfs
  rw [lookup_putF, if_neg k_ko, lookup_putF, if_neg k_ks, lookup_putF, if_pos rfl]
theorem gfs_stored (kn st od : Addr) : (gfs kn st od).lookup ("stored" : Str) = some (.ref st) := by
  unfold gfs
  rw [lookup_putF, if_neg k_so, lookup_putF, if_pos rfl]
theorem gfs_order (kn st od : Addr) : (gfs kn st od).lookup ("order" : Str) = some (.ref od) := by
  unfold gfs
  rw [lookup_putF, if_pos rfl]
theorem gfs_no (kn st od : Addr) {m : Str} (h1 : ¬ m = "known") (h2 : ¬ m = "stored") (h3 : ¬ m = "order") : (gfs kn st od).lookup m = none := by
  unfold gfs
  rw [lookup_putF, if_neg h3, lookup_putF, if_neg h2, lookup_putF, if_neg h1]
  rfl
theorem RuleAt.same {H H' : Hp} (e : Same H H') {t : Addr} {p : Str × List Str} (h : RuleAt H t p) : RuleAt H' t p := by
  obtain ⟨w, h1, h2⟩ := h
  exact ⟨w, e _ _ h1, e _ _ h2⟩
theorem ListAt.same {H H' : Hp} (e : Same H H') {l : Addr} {ps : List (Str × List Str)} (h : ListAt H l ps) : ListAt H' l ps := by
  obtain ⟨ts, h1, h2⟩ := h
  exact ⟨ts, e _ _ h1, Paired.mapP h2 fun _ _ => RuleAt.same e⟩
theorem StoredAt.same {H H' : Hp} (e : Same H H') {st : Addr} {names : List Str} {ls : List Addr} {f : Str → List (Str × List Str)} (h : StoredAt H st names ls f) : StoredAt H' st names ls f :=
  ⟨e _ _ h.1, Paired.mapP h.2.1 fun _ _ => ListAt.same e, h.2.2⟩
theorem GramAt.same {C : Addr} {H H' : Hp} (e : Same H H') {g : Addr} {names : List Str} {rs : List Rule} (h : GramAt C H g names rs) : GramAt C H' g names rs := by
  obtain ⟨dx, kn, st, od, ls, h1, h2, h3, h4⟩ := h.ex
  exact ⟨dx, kn, st, od, ls, e _ _ h1, e _ _ h2, h3.same e, e _ _ h4⟩
/-- looking a name up -/
theorem zipK_val : ∀ {names : List Str} {ls : List Addr}, names.length = ls.length → ∀ n : Str, (valV (zipK names ls) (Sum.inr n : Key) = none ∧ n ∉ names) ∨ ∃ (i : Nat) (l : Addr), names[i]? = some n ∧ ls[i]? = some l ∧ valV (zipK names ls) (Sum.inr n : Key) = some (.ref l) ∧ n ∈ names
  | [], [], _, n => .inl ⟨rfl, by simp⟩
  | x :: names, l :: ls, h, n => by
    unfold zipK
    rw [List.zipWith_cons_cons]
    by_cases e : x = n
    · exact .inr ⟨0, l, by rw [e]; rfl, rfl, valV_pos (by rw [e]), by rw [e]; exact List.mem_cons_self⟩
    · have ne : ¬ ((Sum.inr x : Key) = Sum.inr n) := fun z => e (Sum.inr.inj z)
      rw [valV_neg ne]
      rcases zipK_val (names := names) (ls := ls) (by simpa using h) n with ⟨h1, h2⟩ | ⟨i, l', h1, h2, h3, h4⟩
      · exact .inl ⟨h1, by rw [List.mem_cons, not_or]; exact ⟨fun q => e q.symm, h2⟩⟩
      · exact .inr ⟨i + 1, l', h1, h2, h3, List.mem_cons_of_mem _ h4⟩
theorem paired_ix {α β : Type} {F : α → β → Prop} : ∀ {xs : List α} {ys : List β}, Paired F xs ys → ∀ {i : Nat} {x : α} {y : β}, xs[i]? = some x → ys[i]? = some y → F x y
  | _, _, .nil, i, x, y, h, _ => by simp at h
  | _, _, .cons h t, 0, x, y, h1, h2 => by
    have e1 := Option.some.inj h1
    have e2 := Option.some.inj h2
    subst e1 e2
    exact h
  | _, _, .cons h t, i + 1, x, y, h1, h2 => paired_ix t h1 h2
theorem StoredAt.look {H : Hp} {st : Addr} {names : List Str} {ls : List Addr} {f : Str → List (Str × List Str)} (h : StoredAt H st names ls f) (n : Str) :
    (valV (zipK names ls) (Sum.inr n : Key) = none ∧ n ∉ names) ∨ ∃ (i : Nat) (l : Addr), names[i]? = some n ∧ ls[i]? = some l ∧ valV (zipK names ls) (Sum.inr n : Key) = some (.ref l) ∧ n ∈ names ∧ ListAt H l (f n) := by
  rcases zipK_val (paired_len h.2.1) n with h1 | ⟨i, l, h1, h2, h3, h4⟩
  · exact .inl h1
  · exact .inr ⟨i, l, h1, h2, h3, h4, paired_ix h.2.1 h1 h2⟩
/-- a list of rules as it is handed in -/
def TrioAt (H : Hp) (t : Addr) (r : Rule) : Prop := ∃ w, H t = some (.tup [.str r.1, .str r.2.1, .ref w]) ∧ H w = some (.lst (r.2.2.map V.str))
def TriosAt (H : Hp) (l : Addr) (rs : List Rule) : Prop := ∃ ts : List Addr, H l = some (.lst (ts.map V.ref)) ∧ Paired (TrioAt H) ts rs
theorem TrioAt.same {H H' : Hp} (e : Same H H') {t : Addr} {p : Rule} (h : TrioAt H t p) : TrioAt H' t p := by
  obtain ⟨w, h1, h2⟩ := h
  exact ⟨w, e _ _ h1, e _ _ h2⟩
theorem TriosAt.same {H H' : Hp} (e : Same H H') {l : Addr} {ps : List Rule} (h : TriosAt H l ps) : TriosAt H' l ps := by
  obtain ⟨ts, h1, h2⟩ := h
  exact ⟨ts, e _ _ h1, Paired.mapP h2 fun _ _ => TrioAt.same e⟩
abbrev eRow : (Str × List Str) → PyData := e2 PyData.str eSs
abbrev eTrio : Rule → PyData := e3 PyData.str PyData.str eSs
theorem enc_Row : Enc eRow := enc_2 enc_str enc_Ss
theorem enc_Trio : Enc eTrio := enc_3 enc_str enc_str enc_Ss
theorem dep_Row : Dep eRow 2 := dep_2 dep_str dep_Ss
theorem dep_Trio : Dep eTrio 2 := dep_3 dep_str dep_str dep_Ss
theorem dp_row {K : PySem.W.Frag} {H : Hp} {t : Addr} {p : Str × List Str} (h : RuleAt H t p) : Dp K H (.ref t) (eRow p) := by
  obtain ⟨w, h1, h2⟩ := h
  exact .tup (SqT.of h1) (.cons (.str _) (.cons (dp_Ss h2) .nil))
theorem dp_trio {K : PySem.W.Frag} {H : Hp} {t : Addr} {p : Rule} (h : TrioAt H t p) : Dp K H (.ref t) (eTrio p) := by
  obtain ⟨w, h1, h2⟩ := h
  exact .tup (SqT.of h1) (.cons (.str _) (.cons (.str _) (.cons (dp_Ss h2) .nil)))
theorem dpAll_paired {α : Type} {K : PySem.W.Frag} {H : Hp} {F : Addr → α → Prop} {e : α → PyData} (k : ∀ t p, F t p → Dp K H (.ref t) (e p)) : ∀ {ts : List Addr} {ps : List α}, Paired F ts ps → DpAll K H (ts.map V.ref) (ps.map e)
  | _, _, .nil => .nil
  | _, _, .cons h t => .cons (k _ _ h) (dpAll_paired k t)
theorem dp_rows {K : PySem.W.Frag} {H : Hp} {l : Addr} {ps : List (Str × List Str)} (h : ListAt H l ps) : Dp K H (.ref l) (eL eRow ps) := by
  obtain ⟨ts, h1, h2⟩ := h
  exact .lst (SqL.of h1) (dpAll_paired (e := eRow) (fun _ _ => dp_row) h2)
theorem dp_trios {K : PySem.W.Frag} {H : Hp} {l : Addr} {ps : List Rule} (h : TriosAt H l ps) : Dp K H (.ref l) (eL eTrio ps) := by
  obtain ⟨ts, h1, h2⟩ := h
  exact .lst (SqL.of h1) (dpAll_paired (e := eTrio) (fun _ _ => dp_trio) h2)
/-- a new list of new rows -/
def NewRows (H H' : Hp) (p : Addr) (ps : List (Str × List Str)) : Prop := H p = none ∧ Same H H' ∧ ∃ ts : List Addr, H' p = some (.lst (ts.map V.ref)) ∧ Paired (fun t (r : Str × List Str) => H t = none ∧ ∃ w, H w = none ∧ H' t = some (.tup [.str r.1, .ref w]) ∧ H' w = some (.lst (r.2.map V.str))) ts ps
theorem NewRows.at_ {H H' : Hp} {p : Addr} {ps : List (Str × List Str)} (h : NewRows H H' p ps) : ListAt H' p ps := by
  obtain ⟨_, _, ts, h1, h2⟩ := h
  exact ⟨ts, h1, Paired.mapP h2 fun _ _ ⟨_, w, _, h3, h4⟩ => ⟨w, h3, h4⟩⟩
/-- a new list of new trios -/
def NewTrios (H H' : Hp) (p : Addr) (rs : List Rule) : Prop := H p = none ∧ Same H H' ∧ ∃ ts : List Addr, H' p = some (.lst (ts.map V.ref)) ∧ Paired (fun t (r : Rule) => H t = none ∧ ∃ w, H w = none ∧ H' t = some (.tup [.str r.1, .str r.2.1, .ref w]) ∧ H' w = some (.lst (r.2.2.map V.str))) ts rs
theorem NewTrios.at_ {H H' : Hp} {p : Addr} {ps : List Rule} (h : NewTrios H H' p ps) : TriosAt H' p ps := by
  obtain ⟨_, _, ts, h1, h2⟩ := h
  exact ⟨ts, h1, Paired.mapP h2 fun _ _ ⟨_, w, _, h3, h4⟩ => ⟨w, h3, h4⟩⟩
end SG
/-! what the laws' own helpers speak of: digits, states, called names -/
namespace SG
open PySem PySem.Spec PyProof.Rows L2
/-- digits of the law's: from 0 to 1008 -/
def Digs (ns : List Int) : Prop := ∀ x ∈ ns, 0 ≤ x ∧ x < 1009
def sp_digits : Sp := fun vs H Q _ => ∃ c n : Int, vs = [.int c, .int n] ∧ 0 < n ∧ n ≤ 1000 ∧ ∀ p H' (ns : List Int), Same H H' → H p = none → H' p = some (.lst (ns.map V.int)) → (ns.length : Int) = n → Digs ns → Q (.ref p) H'
theorem Digs.snoc {ns : List Int} {x : Int} (h : Digs ns) (h0 : 0 ≤ x) (h1 : x < 1009) : Digs (ns ++ [x]) := fun y hy => by
  rcases List.mem_append.mp hy with hy | hy
  · exact h y hy
  · rw [List.mem_singleton.mp hy]; exact ⟨h0, h1⟩
/-! ### the law's state: its digits, its place -/
def StAt (H : Hp) (s d : Addr) : Prop := d ≠ s ∧ (∃ k : Int, H s = some (.lst [.ref d, .int k])) ∧ ∃ ns : List Int, H d = some (.lst (ns.map V.int)) ∧ ns ≠ [] ∧ ns.length ≤ 1000 ∧ Digs ns
/-- all but s is kept -/
def But (s : Addr) (H H' : Hp) : Prop := ∀ a o, a ≠ s → H a = some o → H' a = some o
theorem But.refl (s : Addr) (H : Hp) : But s H H := fun _ _ _ h => h
theorem But.trans {s : Addr} {H H1 H2 : Hp} (a : But s H H1) (b : But s H1 H2) : But s H H2 := fun x o n h => b x o n (a x o n h)
theorem But.same {s : Addr} {H H1 H2 : Hp} (a : But s H H1) (b : Same H1 H2) : But s H H2 := fun x o n h => b x o (a x o n h)
theorem but_of_same {s : Addr} {H H1 : Hp} (b : Same H H1) : But s H H1 := fun x o _ h => b x o h
/-- a cell that H does not know may change -/
theorem But.cell {s p : Addr} {H H1 : Hp} (a : But s H H1) (hp : H p = none) (o : HO) : But s H (upd H1 p o) := fun x u n h => by rw [upd_ne (ne_of_none h hp)]; exact a x u n h
theorem But.own {s : Addr} {H H1 : Hp} (a : But s H H1) (o : HO) : But s H (upd H1 s o) := fun x u n h => by rw [upd_ne n]; exact a x u n h
theorem StAt.s_some {H : Hp} {s d : Addr} (h : StAt H s d) : ∃ o, H s = some o := let ⟨_, ⟨_, h⟩, _⟩ := h; ⟨_, h⟩
theorem StAt.d_some {H : Hp} {s d : Addr} (h : StAt H s d) : ∃ o, H d = some o := let ⟨_, _, _, h, _⟩ := h; ⟨_, h⟩
theorem But.free {s d : Addr} {H H' : Hp} (a : But s H H') (h : StAt H' s d) {p : Addr} (hp : H' p = none) : H p = none := by
  cases e : H p with
  | none => rfl
  | some o =>
    by_cases n : p = s
    · obtain ⟨o', h⟩ := h.s_some
      rw [n, h] at hp
      cases hp
    · rw [a p o n e] at hp
      cases hp
theorem StAt.same {H H' : Hp} {s d : Addr} (h : StAt H s d) (e : Same H H') : StAt H' s d := by
  obtain ⟨n, ⟨k, h1⟩, ns, h2, r⟩ := h
  exact ⟨n, ⟨k, e _ _ h1⟩, ns, e _ _ h2, r⟩
theorem StAt.cell {H H0 : Hp} {s d p : Addr} (h : StAt H s d) {o : HO} (h0 : StAt H0 s d) (hp : H0 p = Option.none) : StAt (upd H p o) s d := by
  obtain ⟨n, ⟨k, h1⟩, ns, h2, r⟩ := h
  obtain ⟨os, g1⟩ := h0.s_some
  obtain ⟨od, g2⟩ := h0.d_some
  exact ⟨n, ⟨k, by rw [upd_ne (ne_of_none g1 hp)]; exact h1⟩, ns, by rw [upd_ne (ne_of_none g2 hp)]; exact h2, r⟩
def sp_next : Sp := fun vs H Q _ => ∃ s d : Addr, vs = [.ref s] ∧ StAt H s d ∧ ∀ (j : Int) H', 0 ≤ j → j < 1009 → But s H H' → StAt H' s d → Q (.int j) H'
/-- small letters -/
def Smalls (l : List Nat) : Prop := ∀ c ∈ l, 97 ≤ c ∧ c < 123
theorem abc : (("abcdefghijklmnopqrstuvwxyz" : Str)).cps.toList = (List.range 26).map (97 + ·) := by decide +kernel
theorem abc6 : (("abcdef" : Str)).cps.toList = (List.range 6).map (97 + ·) := by decide +kernel
/-- the i-th name: a word of at most seven letters and the i-th letter -/
def CalledAt (i : Nat) (x : Str) : Prop := ∃ l : List Nat, x = ⟨(l ++ [97 + i]).toArray⟩ ∧ l.length ≤ 7 ∧ Smalls l
def Called (n : Nat) (xs : List Str) : Prop := xs.length = n ∧ ∀ i x, xs[i]? = some x → CalledAt i x
def sp_called : Sp := fun vs H Q _ => ∃ (s d : Addr) (n : Nat), vs = [.ref s, .int n] ∧ n ≤ 6 ∧ StAt H s d ∧ ∀ p H' (xs : List Str), H p = none → But s H H' → StAt H' s d → H' p = some (.lst (xs.map V.str)) → Called n xs → Q (.ref p) H'
theorem letter_at {i : Int} (h0 : 0 ≤ i) (h1 : i < 26) : atI (("abcdefghijklmnopqrstuvwxyz" : Str)).cps.toList i = some (97 + i.toNat) := by
  rw [atI_eq h0 (by rw [abc]; simpa using h1), abc, List.getElem?_map, List.getElem?_range (by omega)]
  rfl
theorem letter6_at {i : Int} (h0 : 0 ≤ i) (h1 : i < 6) : atI (("abcdef" : Str)).cps.toList i = some (97 + i.toNat) := by
  rw [atI_eq h0 (by rw [abc6]; simpa using h1), abc6, List.getElem?_map, List.getElem?_range (by omega)]
  rfl
theorem StAt.ne_strs {H : Hp} {s d a : Addr} {ms : List Str} (h : StAt H s d) (e : H a = some (.lst (ms.map V.str))) : a ≠ s := fun q => by
  obtain ⟨_, ⟨k, h1⟩, _⟩ := h
  rw [q, h1] at e
  cases ms with
  | nil => cases e
  | cons x r => cases e
theorem StAt.ne_dk {H : Hp} {s d a : Addr} {kvs : List (Key × V)} (h : StAt H s d) (e : H a = some (.dK kvs)) : a ≠ s := fun q => by
  obtain ⟨_, ⟨k, h1⟩, _⟩ := h
  rw [q, h1] at e
  cases e
theorem But.under {s : Addr} {H H' H1 : Hp} (a : But s H H') (h : H1 s = none) (e : Same H1 H) : Same H1 H' := fun x o g => a x o (ne_of_none g h) (e x o g)

def sp_drawn : Sp := fun vs H Q _ => ∃ (s d a : Addr) (xs : List Str) (m : Nat), vs = [.ref s, .ref a, .int m] ∧ m ≤ 1000 ∧ xs.length ≤ 1000 ∧ StAt H s d ∧ H a = some (.lst (xs.map V.str)) ∧ ∀ p H' (row : List Str), H p = none → But s H H' → StAt H' s d → H' p = some (.lst (row.map V.str)) → row.length ≤ m → (∀ x ∈ row, x ∈ xs) → Q (.ref p) H'
/-! ### drawn grammars -/
/-- the rules of a drawn grammar -/
structure GoodR (names : List Str) (rs : List Rule) : Prop where
  nd : rs.Nodup
  ok : ∀ r ∈ rs, r.1 ∈ names ∧ isLetter r.2.1 = true ∧ r.2.2.length ≤ 3 ∧ ∀ x ∈ r.2.2, x ∈ names
  few : ∀ n, (rulesOf rs n).length ≤ 4
theorem rulesOf_perm {rs qs : List Rule} (h : rs.Perm qs) (n : Str) : (rulesOf rs n).Perm (rulesOf qs n) := (h.filter _).map _
theorem GoodR.perm {names ns : List Str} {rs qs : List Rule} (g : GoodR names rs) (hn : ∀ x, x ∈ names → x ∈ ns) (h : rs.Perm qs) : GoodR ns qs where
  nd := h.nodup_iff.mp g.nd
  ok := fun r hr => let ⟨a, b, c, d⟩ := g.ok r (h.mem_iff.mpr hr); ⟨hn _ a, b, c, fun x hx => hn _ (d x hx)⟩
  few := fun n => by rw [← (rulesOf_perm h n).length_eq]; exact g.few n
theorem mem_rulesOf {rs : List Rule} {n : Str} {p : Str × List Str} : p ∈ rulesOf rs n ↔ (n, p) ∈ rs := by
  unfold rulesOf
  rw [List.mem_map]
  constructor
  · rintro ⟨r, hr, rfl⟩
    rw [List.mem_filter, decide_eq_true_eq] at hr
    rw [← hr.2]
    exact hr.1
  · intro h
    exact ⟨(n, p), List.mem_filter.mpr ⟨h, decide_eq_true rfl⟩, rfl⟩
theorem rulesOf_take_lt : ∀ {rs : List Rule} {i : Nat} {r : Rule}, rs[i]? = some r → (rulesOf (rs.take i) r.1).length < (rulesOf rs r.1).length
  | [], i, r, h => by simp at h
  | x :: rs, 0, r, h => by
    have e : x = r := Option.some.inj h
    subst e
    unfold rulesOf
    simp
  | x :: rs, i + 1, r, h => by
    have ih := rulesOf_take_lt (rs := rs) (i := i) (r := r) (by simpa using h)
    rw [List.take_succ_cons]
    unfold rulesOf at *
    by_cases e : x.1 = r.1
    · simp only [List.filter_cons, e, decide_true, if_true, List.map_cons, List.length_cons]
      omega
    · simp only [List.filter_cons, e, decide_false, Bool.false_eq_true, if_false]
      exact ih
theorem not_mem_take_nd {α : Type} {xs : List α} {i : Nat} {x : α} (h : xs.Nodup) (e : xs[i]? = some x) : x ∉ xs.take i := fun m => by
  have hd := List.take_append_drop i xs
  have hx : x ∈ xs.drop i := by
    obtain ⟨hl, hx⟩ := List.getElem?_eq_some_iff.mp e
    rw [List.drop_eq_getElem_cons hl, hx]
    exact List.mem_cons_self
  rw [← hd, List.nodup_append] at h
  exact h.2.2 x m x hx rfl
theorem GoodR.rulesOk {names : List Str} {rs : List Rule} (g : GoodR names rs) : rulesOk names rs := fun i r h => by
  have hm := List.mem_of_getElem? h
  obtain ⟨a, b, c, d⟩ := g.ok r hm
  have h4 := rulesOf_take_lt h
  have h5 := g.few r.1
  have h6 : r.2 ∉ rulesOf (rs.take i) r.1 := fun z => not_mem_take_nd g.nd h (by rw [mem_rulesOf] at z; exact z)
  unfold letsBy
  simp only [Bool.and_eq_true, decide_eq_true_eq, List.all_eq_true]
  exact ⟨⟨⟨⟨⟨a, b⟩, c⟩, d⟩, by omega⟩, h6⟩
/-- names up to the k-th have four rules at most, the k-th has c, those behind have one -/
def FewR (names : List Str) (rs : List Rule) (k c : Nat) : Prop := ∀ (i : Nat) n, names[i]? = some n → (rulesOf rs n).length ≤ if i < k then 4 else if i = k then c else 1
theorem FewR.put {names : List Str} {rs : List Rule} {k c : Nat} {r : Rule} (h : FewR names rs k c) (nd : names.Nodup) (e : names[k]? = some r.1) : FewR names (rs ++ [r]) k (c + 1) := fun i n hi => by
  have := h i n hi
  rw [rulesOf_snoc]
  by_cases c1 : r.1 = n
  · have e2 : i = k := nd_ix nd hi (c1 ▸ e)
    subst e2
    rw [if_pos c1, List.length_append]
    simp only [Nat.lt_irrefl, if_false, if_true, List.length_cons, List.length_nil] at this ⊢
    omega
  · rw [if_neg c1]
    split <;> rename_i h1
    · rw [if_pos h1] at this; exact this
    · rw [if_neg h1] at this
      split <;> rename_i h2
      · rw [if_pos h2] at this; omega
      · rw [if_neg h2] at this; exact this
theorem FewR.up {names : List Str} {rs : List Rule} {k c : Nat} (h : FewR names rs k c) : FewR names rs k (c + 1) := fun i n hi => by
  have := h i n hi
  split <;> rename_i h1
  · rw [if_pos h1] at this; exact this
  · rw [if_neg h1] at this
    split <;> rename_i h2
    · rw [if_pos h2] at this; omega
    · rw [if_neg h2] at this; exact this
theorem FewR.next {names : List Str} {rs : List Rule} {k c : Nat} (h : FewR names rs k c) (hc : c ≤ 4) : FewR names rs (k + 1) 1 := fun i n hi => by
  have := h i n hi
  split <;> rename_i h1
  · split at this
    · exact this
    · split at this
      · omega
      · omega
  · have h2 : ¬ i < k := by omega
    have h3 : ¬ i = k := by omega
    rw [if_neg h2, if_neg h3] at this
    split <;> exact this
theorem GoodR.of {names : List Str} {rs : List Rule} {k : Nat} (nd : rs.Nodup) (ok : ∀ r ∈ rs, r.1 ∈ names ∧ isLetter r.2.1 = true ∧ r.2.2.length ≤ 3 ∧ ∀ x ∈ r.2.2, x ∈ names) (h : FewR names rs k 1) : GoodR names rs := ⟨nd, ok, fun n => by
  by_cases hn : n ∈ names
  · obtain ⟨i, hi⟩ := List.mem_iff_getElem?.mp hn
    have := h i n hi
    split at this
    · exact this
    · split at this <;> omega
  · have e : rulesOf rs n = [] := by
      rw [List.eq_nil_iff_forall_not_mem]
      intro p hp
      exact hn (ok _ (mem_rulesOf.mp hp)).1
    rw [e]
    exact Nat.zero_le _⟩
theorem FewR.first {names : List Str} {rs : List Rule} (nd : names.Nodup) (e : rs.map (·.1) = names) : FewR names rs 0 1 := fun i n hi => by
  have h1 : (rulesOf rs n).length ≤ 1 := by
    have h2 : (rulesOf rs n).length = ((rs.map (·.1)).filter fun x => decide (x = n)).length := by
      unfold rulesOf
      rw [List.length_map, List.filter_map, List.length_map]
      rfl
    rw [h2, e]
    have h3 := nd.filter fun x => decide (x = n)
    have h4 : ∀ x ∈ names.filter (fun x => decide (x = n)), x = n := fun x hx => by simpa using (List.mem_filter.mp hx).2
    match h5 : names.filter (fun x => decide (x = n)) with
    | [] => exact Nat.zero_le _
    | [x] => exact Nat.le_refl _
    | x :: y :: t =>
      rw [h5] at h3 h4
      have e1 := h4 x List.mem_cons_self
      have e2 := h4 y (List.mem_cons_of_mem _ List.mem_cons_self)
      exact absurd (e1.trans e2.symm) ((List.pairwise_cons.mp h3).1 y List.mem_cons_self)
  split
  · omega
  · split <;> exact h1
/-! called names are names -/
theorem small_list {l : List Nat} (h : Smalls l) : isSmall ⟨l.toArray⟩ = true := by
  unfold isSmall
  rw [List.all_eq_true]
  intro c hc
  have h2 := h c (by simpa using hc)
  rw [decide_eq_true_eq, abcL, List.mem_map]
  exact ⟨c - 97, by rw [List.mem_range]; omega, by omega⟩
theorem CalledAt.name {i : Nat} {x : Str} (hi : i < 6) (h : CalledAt i x) : isName x = true := by
  obtain ⟨l, rfl, hl, hs⟩ := h
  have h1 : (⟨(l ++ [97 + i]).toArray⟩ : Str).length = l.length + 1 := by
    show (l ++ [97 + i]).toArray.size = _
    simp
  have hs2 : Smalls (l ++ [97 + i]) := fun c hc => by
    rcases List.mem_append.mp hc with hc | hc
    · exact hs c hc
    · rw [List.mem_singleton.mp hc]; omega
  have hne : (⟨(l ++ [97 + i]).toArray⟩ : Str) ≠ ("names" : Str) := fun e => by
    have e2 : l ++ [97 + i] = ("names" : Str).cps.toList := by rw [← e]
    have e3 : ("names" : Str).cps.toList = [110, 97, 109, 101] ++ [115] := by decide +kernel
    rw [e3] at e2
    have e4 := (List.append_inj' e2 rfl).2
    simp at e4
    omega
  unfold isName
  simp only [Bool.and_eq_true, decide_eq_true_eq]
  exact ⟨⟨⟨by omega, by omega⟩, small_list hs2⟩, hne⟩
theorem CalledAt.inj {i j : Nat} {x : Str} (h : CalledAt i x) (h' : CalledAt j x) : i = j := by
  obtain ⟨l, rfl, _, _⟩ := h
  obtain ⟨m, e, _, _⟩ := h'
  have e2 : l ++ [97 + i] = m ++ [97 + j] := by
    have := congrArg (fun z : Str => z.cps.toList) e
    simpa using this
  have e4 := (List.append_inj' e2 rfl).2
  simp at e4
  omega
theorem Called.nd {n : Nat} {xs : List Str} (h : Called n xs) : xs.Nodup := by
  refine List.pairwise_iff_getElem.mpr fun i j hi hj hij e => ?_
  have h1 : xs[i]? = some xs[j] := by rw [← e]; exact List.getElem?_eq_getElem hi
  have := (h.2 i _ h1).inj (h.2 j _ (List.getElem?_eq_getElem hj))
  omega
theorem Called.names {n : Nat} {xs : List Str} (h : Called n xs) (h0 : 1 ≤ n) (h6 : n ≤ 6) : areNames xs = true := by
  have h1 := h.1
  unfold areNames
  simp only [Bool.and_eq_true, decide_eq_true_eq, List.all_eq_true]
  refine ⟨⟨⟨by omega, by omega⟩, h.nd⟩, fun x hx => ?_⟩
  obtain ⟨i, hi⟩ := List.mem_iff_getElem?.mp hx
  have := (List.getElem?_eq_some_iff.mp hi).1
  exact (h.2 i x hi).name (by omega)
theorem Called.mem_at {n : Nat} {xs : List Str} (h : Called n xs) (h6 : n ≤ 6) {x : Str} (hx : x ∈ xs) : ∃ i, i < 6 ∧ CalledAt i x := by
  obtain ⟨i, hi⟩ := List.mem_iff_getElem?.mp hx
  have := (List.getElem?_eq_some_iff.mp hi).1
  have := h.1
  exact ⟨i, by omega, h.2 i x hi⟩
theorem areNames_perm {xs ys : List Str} (h : xs.Perm ys) (e : areNames xs = true) : areNames ys = true := by
  unfold areNames at *
  simp only [Bool.and_eq_true, decide_eq_true_eq, List.all_eq_true] at *
  obtain ⟨⟨⟨a, b⟩, c⟩, d⟩ := e
  rw [← h.length_eq]
  exact ⟨⟨⟨a, b⟩, h.nodup_iff.mp c⟩, fun x hx => d x (h.mem_iff.mpr hx)⟩
theorem isName_len {x : Str} (h : isName x = true) : x.length ≤ 8 := by
  unfold isName at h
  simp only [Bool.and_eq_true, decide_eq_true_eq] at h
  exact h.1.1.2
theorem areNames_len {xs : List Str} (e : areNames xs = true) : ∀ x ∈ xs, x.length ≤ 8 := fun x hx => by
  unfold areNames at e
  simp only [Bool.and_eq_true, List.all_eq_true] at e
  exact isName_len (e.2 x hx)
theorem isLetter_len {x : Str} (e : isLetter x = true) : x.length = 1 := by
  unfold isLetter at e
  simp only [Bool.and_eq_true, decide_eq_true_eq] at e
  exact e.1
theorem letters_ok : ∀ z ∈ ([("a" : Str), "ab", "xyz", "ab"]), z.length ≤ 3 ∧ 0 < z.cps.toList.length ∧ ∀ c ∈ z.cps.toList, isLetter ⟨#[c]⟩ = true := by
  decide +kernel
theorem turned_perm {α : Type} (xs : List α) (i : Nat) : xs.Perm (xs.drop i ++ xs.take i) := by
  have h := List.perm_append_comm (l₁ := xs.take i) (l₂ := xs.drop i)
  rw [List.take_append_drop] at h
  exact h
/-- a list of texts is no list of cells -/
theorem strs_refs {xs : List Str} {ts : List Addr} (e : (HO.lst (xs.map V.str)) = .lst (ts.map V.ref)) : ts = [] := by
  cases ts with
  | nil => rfl
  | cons t r => cases xs with
    | nil => cases e
    | cons x q => cases e

/-! ### a grammar in the drawing -/
theorem StAt.ne_refs {H : Hp} {s d a : Addr} {ts : List Addr} (h : StAt H s d) (e : H a = some (.lst (ts.map V.ref))) : a ≠ s := fun q => by
  obtain ⟨_, ⟨k, h1⟩, _⟩ := h
  rw [q, h1] at e
  match ts with
  | [] => cases e
  | [x] => cases e
  | x :: y :: t => cases e
theorem StAt.ne_tup {H : Hp} {s d a : Addr} {vs : List V} (h : StAt H s d) (e : H a = some (.tup vs)) : a ≠ s := fun q => by
  obtain ⟨_, ⟨k, h1⟩, _⟩ := h
  rw [q, h1] at e
  cases e
/-- a trio in new cells -/
def TrioF (H H' : Hp) (t : Addr) (r : Rule) : Prop := H t = none ∧ ∃ w, H w = none ∧ H' t = some (.tup [.str r.1, .str r.2.1, .ref w]) ∧ H' w = some (.lst (r.2.2.map V.str))
structure BuiltSt (H H' : Hp) (s d nl ru : Addr) (names : List Str) (rs : List Rule) : Prop where
  sm : Same H H'
  st : StAt H' s d
  nm : H' nl = some (.lst (names.map V.str))
  tr : ∃ ts : List Addr, H' ru = some (.lst (ts.map V.ref)) ∧ Paired (TrioF H H') ts rs
variable {H H' H2 : Hp} {s d nl ru : Addr} {names : List Str} {rs : List Rule}
theorem BuiltSt.same (b : BuiltSt H H' s d nl ru names rs) (e : Same H' H2) : BuiltSt H H2 s d nl ru names rs := by
  obtain ⟨ts, h1, h2⟩ := b.tr
  exact ⟨b.sm.trans e, b.st.same e, e _ _ b.nm, ts, e _ _ h1, Paired.mapP h2 fun _ _ ⟨a, w, c, h3, h4⟩ => ⟨a, w, c, e _ _ h3, e _ _ h4⟩⟩
theorem BuiltSt.but (b : BuiltSt H H' s d nl ru names rs) (hs : H s = none) (e : But s H' H2) (st : StAt H2 s d) : BuiltSt H H2 s d nl ru names rs := by
  obtain ⟨ts, h1, h2⟩ := b.tr
  exact ⟨fun a o h => e a o (ne_of_none h hs) (b.sm a o h), st, e _ _ (b.st.ne_strs b.nm) b.nm, ts, e _ _ (b.st.ne_refs h1) h1, Paired.mapP h2 fun _ _ ⟨a, w, c, h3, h4⟩ => ⟨a, w, c, e _ _ (b.st.ne_tup h3) h3, e _ _ (b.st.ne_strs h4) h4⟩⟩
/-- a dict of the drawing's changes -/
theorem BuiltSt.dict (b : BuiltSt H H' s d nl ru names rs) {x : Addr} {kvs kvs2 : List (Key × V)} (hx : H' x = some (.dK kvs)) (h0 : H x = none) : BuiltSt H (upd H' x (.dK kvs2)) s d nl ru names rs := by
  obtain ⟨ts, h1, h2⟩ := b.tr
  obtain ⟨n, ⟨k, g1⟩, ns, g2, r⟩ := b.st
  have kp : ∀ (a : Addr) (o : HO), H' a = some o → (∀ q, o ≠ .dK q) → upd H' x (.dK kvs2) a = some o := fun a o h n => by
    rw [upd_ne (fun z => by rw [z, hx] at h; exact n _ (Option.some.inj h).symm)]; exact h
  exact ⟨same_mut b.sm h0, ⟨n, ⟨k, kp _ _ g1 fun q z => by cases z⟩, ns, kp _ _ g2 fun q z => (by cases z), r⟩, kp _ _ b.nm fun q z => (by cases z), ts, kp _ _ h1 fun q z => (by cases z), Paired.mapP h2 fun _ _ ⟨a, w, c, h3, h4⟩ => ⟨a, w, c, kp _ _ h3 fun q z => (by cases z), kp _ _ h4 fun q z => (by cases z)⟩⟩
/-- a rule is put behind -/
theorem BuiltSt.put (b : BuiltSt H H' s d nl ru names rs) (hru : H ru = none) (hn : names ≠ []) {ts : List Addr} (hts : H' ru = some (.lst (ts.map V.ref))) {t w : Addr} {r : Rule} (nw : w ≠ ru) (h : TrioF H H' t r) (hw : H' t = some (.tup [.str r.1, .str r.2.1, .ref w])) :
    BuiltSt H (upd H' ru (.lst (ts.map V.ref ++ [.ref t]))) s d nl ru names (rs ++ [r]) := by
  obtain ⟨ts', h1, h2⟩ := b.tr
  have ets : ts' = ts := by
    rw [h1] at hts
    exact List.map_inj_right (fun x y q => V.ref.inj q) |>.mp (HO.lst.inj (Option.some.inj hts))
  subst ets
  obtain ⟨n, ⟨k, g1⟩, ns, g2, ne, r2⟩ := b.st
  have nnl : nl ≠ ru := fun z => by
    have h3 := b.nm
    rw [z, h1] at h3
    cases names with
    | nil => exact hn rfl
    | cons x q => cases ts' with
      | nil => cases h3
      | cons t r => cases h3
  have nd : d ≠ ru := fun z => by
    rw [z, h1] at g2
    cases ns with
    | nil => exact ne rfl
    | cons x q => cases ts' with
      | nil => cases g2
      | cons t r => cases g2
  have tp : ∀ (a : Addr) (vs : List V), H' a = some (.tup vs) → upd H' ru (.lst (ts'.map V.ref ++ [.ref t])) a = some (.tup vs) := fun a vs h => by
    rw [upd_ne (fun z => by rw [z, h1] at h; cases h)]; exact h
  have h3 : Paired (TrioF H (upd H' ru (.lst (ts'.map V.ref ++ [.ref t])))) ts' rs := by
    by_cases ce : ts' = []
    · rw [ce] at h2
      rw [ce]
      cases h2
      exact .nil
    · refine Paired.mapP h2 fun t' r' ⟨a, w', c, h3, h4⟩ => ⟨a, w', c, tp _ _ h3, ?_⟩
      rw [upd_ne]
      · exact h4
      · intro z
        rw [z, h1] at h4
        exact ce (strs_refs (Option.some.inj h4).symm)
  obtain ⟨a, w', c, h4, h5⟩ := h
  have ew : w' = w := by
    rw [hw] at h4
    have := HO.tup.inj (Option.some.inj h4)
    simp at this
    exact this.symm
  subst ew
  refine ⟨same_mut b.sm hru, ⟨n, ⟨k, by rw [upd_ne (fun z => by rw [← z] at h1; exact b.st.ne_refs h1 rfl)]; exact g1⟩, ns, by rw [upd_ne nd]; exact g2, ne, r2⟩, by rw [upd_ne nnl]; exact b.nm, ts' ++ [t], by rw [upd_same, List.map_append]; rfl, ?_⟩
  exact paired_app (F := TrioF H _) ⟨a, w', c, tp _ _ h4, by rw [upd_ne nw]; exact h5⟩ h3

def intOf (kvs : List (Key × V)) (n : Str) : Int := match valV kvs (Sum.inr n : Key) with
  | some (.int z) => z
  | _ => 0
theorem intOf_eq {kvs : List (Key × V)} {n : Str} (h : ∃ z : Int, valV kvs (Sum.inr n : Key) = some (.int z)) : valV kvs (Sum.inr n : Key) = some (.int (intOf kvs n)) := by
  obtain ⟨z, hz⟩ := h
  unfold intOf
  rw [hz]
theorem letter_ix {z : Str} (h : 0 < z.cps.toList.length) (j : Int) : ∃ c, atI z.cps.toList (j % (z.length : Int)) = some c ∧ c ∈ z.cps.toList := by
  have e : (z.length : Int) = (z.cps.toList.length : Int) := by show ((z.cps.size : Nat) : Int) = _; simp
  rw [e]
  exact atI_some (Int.emod_nonneg _ (by omega)) (Int.emod_lt_of_pos _ (by omega))
def sp_built : Sp := fun vs H Q _ => ∃ (c : Int) (n : Nat), vs = [.int c, .int n] ∧ 1 ≤ n ∧ n ≤ 6 ∧ ∀ p na ru H' (names : List Str) (rs : List Rule), Same H H' → H p = none → H na = none → H ru = none → na ≠ ru → H' p = some (.tup [.ref na, .ref ru]) → H' na = some (.lst (names.map V.str)) →
  (∃ ts : List Addr, H' ru = some (.lst (ts.map V.ref)) ∧ Paired (TrioF H H') ts rs) → areNames names = true → (∀ x ∈ names, ∃ i, i < 6 ∧ CalledAt i x) → GoodR names rs → rs ≠ [] → rs.length ≤ 24 → names.length = n → Q (.ref p) H'

theorem cut_ge (xs : List V) (n : Nat) : cutV xs (some (n : Int)) none = xs.drop n := by
  unfold cutV
  rw [HT.sIx_none, HT.sIx_nat]
  by_cases h : n ≤ xs.length
  · rw [Nat.min_eq_left h, List.take_of_length_le (by rw [List.length_drop]; exact Nat.le_refl _)]
  · rw [Nat.min_eq_right (by omega), Nat.sub_self, List.take_zero, List.drop_eq_nil_of_le (by omega)]
theorem paired_append {α β : Type} {F : α → β → Prop} : ∀ {xs : List α} {ys : List β} {xs2 : List α} {ys2 : List β}, Paired F xs ys → Paired F xs2 ys2 → Paired F (xs ++ xs2) (ys ++ ys2)
  | _, _, _, _, .nil, h => h
  | _, _, _, _, .cons a t, h => .cons a (paired_append t h)
theorem paired_take {α β : Type} {F : α → β → Prop} : ∀ {xs : List α} {ys : List β}, Paired F xs ys → ∀ i, Paired F (xs.take i) (ys.take i)
  | _, _, _, 0 => .nil
  | _, _, .nil, i + 1 => .nil
  | _, _, .cons a t, i + 1 => .cons a (paired_take t i)
theorem paired_drop {α β : Type} {F : α → β → Prop} : ∀ {xs : List α} {ys : List β}, Paired F xs ys → ∀ i, Paired F (xs.drop i) (ys.drop i)
  | _, _, h, 0 => h
  | _, _, .nil, i + 1 => .nil
  | _, _, .cons a t, i + 1 => paired_drop t i
theorem paired_turn {α β : Type} {F : α → β → Prop} {xs : List α} {ys : List β} (h : Paired F xs ys) (i : Nat) : Paired F (xs.drop i ++ xs.take i) (ys.drop i ++ ys.take i) := paired_append (paired_drop h i) (paired_take h i)

/-! ### rows that are spoilt -/
/-- tuples of m texts and a row in a new cell, of n texts at most -/
def RowsM (m : Nat) (H0 H' : Hp) (ts : List Addr) (n : Nat) : Prop := ∀ t ∈ ts, ∃ (ks : List Str) (w : Addr) (xs : List Str), ks.length = m ∧ H0 w = none ∧ H' t = some (.tup (ks.map V.str ++ [.ref w])) ∧ H' w = some (.lst (xs.map V.str)) ∧ xs.length ≤ n
theorem RowsM.mut {m : Nat} {H0 H' : Hp} {ts : List Addr} {n : Nat} (h : RowsM m H0 H' ts n) {w : Addr} {xs : List Str} (hw : H' w = some (.lst (xs.map V.str))) (hl : xs.length ≤ n) (y : Str) : RowsM m H0 (upd H' w (.lst (xs.map V.str ++ [.str y]))) ts (n + 1) := fun t ht => by
  obtain ⟨ks, w', zs, h1, h2, h3, h4, h5⟩ := h t ht
  have e3 : upd H' w (.lst (xs.map V.str ++ [.str y])) t = some (.tup (ks.map V.str ++ [.ref w'])) := by
    rw [upd_ne (ne_of h3 hw (by intro z; cases z))]; exact h3
  by_cases e : w' = w
  · subst e
    exact ⟨ks, w', xs ++ [y], h1, h2, e3, by rw [upd_same, List.map_append]; rfl, by rw [List.length_append]; exact Nat.succ_le_succ hl⟩
  · exact ⟨ks, w', zs, h1, h2, e3, by rw [upd_ne e]; exact h4, by omega⟩
theorem RowsM.same {m : Nat} {H0 H' H2 : Hp} {ts : List Addr} {n : Nat} (h : RowsM m H0 H' ts n) (e : Same H' H2) : RowsM m H0 H2 ts n := fun t ht => by
  obtain ⟨ks, w', zs, h1, h2, h3, h4, h5⟩ := h t ht
  exact ⟨ks, w', zs, h1, h2, e _ _ h3, e _ _ h4, h5⟩
/-- the list of the tuples stands while rows are spoilt -/
theorem refs_kept {H' : Hp} {p w : Addr} {ts : List Addr} {xs : List Str} {t : Addr} {o : HO} (hp : H' p = some (.lst (ts.map V.ref))) (ht : t ∈ ts) (hw : H' w = some (.lst (xs.map V.str))) : upd H' w o p = some (.lst (ts.map V.ref)) := by
  rw [upd_ne]
  · exact hp
  · intro z
    rw [z, hw] at hp
    have := strs_refs (Option.some.inj hp)
    rw [this] at ht
    cases ht
/-! two lists beside one another -/
variable {α β : Type} [DecidableEq α] [DecidableEq β] {ea : α → PyData} {eb : β → PyData}
def eLL (ea : α → PyData) (eb : β → PyData) (p : α × β) : PyData := .list [ea p.1, eb p.2]
theorem enc_LL (h : Enc ea) (h' : Enc eb) : Enc (eLL ea eb) := fun x y => by
  unfold eLL
  simp only [PyData.eqv, PyData.eqvAll, h x.1 y.1, h' x.2 y.2, Bool.and_true]
  by_cases h1 : x.1 = y.1 <;> by_cases h2 : x.2 = y.2 <;> simp [h1, h2, Prod.ext_iff]
theorem dep_LL {n m : Nat} (h : Dep ea n) (h' : Dep eb m) : Dep (eLL ea eb) (max n m + 1) := fun p => by
  unfold eLL
  simp only [PyData.depth, PyData.depthAll]
  have := h p.1
  have := h' p.2
  omega
theorem enc_self (h : Enc ea) (x : α) : PyData.eqv (ea x) (ea x) = true := by rw [h]; simp
theorem GramAt.ins {C : Addr} {H : Hp} {g : Addr} {names : List Str} {rs : List Rule} (G : GramAt C H g names rs) : ∃ dx kn st od, H g = some (.ins C dx (gfs kn st od)) := by
  obtain ⟨dx, kn, st, od, ls, h, _⟩ := G.ex
  exact ⟨dx, kn, st, od, h⟩
/-- what a name is followed by q is no name -/
theorem called_q {names : List Str} (h : ∀ x ∈ names, ∃ i, i < 6 ∧ CalledAt i x) (x : Str) : x ++ ("q" : Str) ∉ names := fun hx => by
  obtain ⟨i, hi, l, e, _, _⟩ := h _ hx
  have e2 : x.cps.toList ++ [113] = l ++ [97 + i] := by
    have := congrArg (fun z : Str => z.cps.toList) e
    have e3 : (x ++ ("q" : Str)).cps.toList = x.cps.toList ++ ("q" : Str).cps.toList := by
      show (x.cps ++ ("q" : Str).cps).toList = _
      simp
    have e4 : ("q" : Str).cps.toList = [113] := by decide +kernel
    rw [← e4, ← e3]
    simpa using this
  have e4 := (List.append_inj' e2 rfl).2
  simp at e4
  omega
theorem called_nil {names : List Str} (h : ∀ x ∈ names, ∃ i, i < 6 ∧ CalledAt i x) : ("" : Str) ∉ names := fun hx => by
  obtain ⟨i, hi, l, e, _, _⟩ := h _ hx
  have e4 : ("" : Str).cps.toList = [] := by decide +kernel
  rw [e] at e4
  simp at e4
/-- tuples in cells that are not D -/
def RowD (H' : Hp) (D t : Addr) (r : Str × List Str) : Prop := t ≠ D ∧ ∃ w, w ≠ D ∧ H' t = some (.tup [.str r.1, .ref w]) ∧ H' w = some (.lst (r.2.map V.str))
theorem RowsM.of_rows {H0 H' : Hp} {ts : List Addr} {ps : List (Str × List Str)} (h : Paired (fun t (r : Str × List Str) => H0 t = none ∧ ∃ w, H0 w = none ∧ H' t = some (.tup [.str r.1, .ref w]) ∧ H' w = some (.lst (r.2.map V.str))) ts ps) {n : Nat} (hn : ∀ p ∈ ps, p.2.length ≤ n) : RowsM 1 H0 H' ts n := fun t ht => by
  obtain ⟨i, hi⟩ := List.mem_iff_getElem?.mp ht
  obtain ⟨r, hr, _, w, h1, h2, h3⟩ := paired_get h hi
  exact ⟨[r.1], w, r.2, rfl, h1, h2, h3, hn r (List.mem_of_getElem? hr)⟩
theorem RowsM.of_trios {H0 H' : Hp} {ts : List Addr} {rs : List Rule} (h : Paired (fun t (r : Rule) => H0 t = none ∧ ∃ w, H0 w = none ∧ H' t = some (.tup [.str r.1, .str r.2.1, .ref w]) ∧ H' w = some (.lst (r.2.2.map V.str))) ts rs) {n : Nat} (hn : ∀ r ∈ rs, r.2.2.length ≤ n) : RowsM 2 H0 H' ts n := fun t ht => by
  obtain ⟨i, hi⟩ := List.mem_iff_getElem?.mp ht
  obtain ⟨r, hr, _, w, h1, h2, h3⟩ := paired_get h hi
  exact ⟨[r.1, r.2.1], w, r.2.2, rfl, h1, h2, h3, hn r (List.mem_of_getElem? hr)⟩

/-- none where the first heap knows nothing and the second does -/
def mixH (H H' : Hp) : Hp := fun a => match H' a with
  | none => some (.lst [])
  | some _ => H a
theorem mixH_none {H H' : Hp} (w : Addr) : mixH H H' w = none ↔ H w = none ∧ ∃ o, H' w = some o := by
  unfold mixH
  cases e : H' w with
  | none => simp
  | some o => simp

theorem letters_ok3 : ∀ z ∈ ([("a" : Str), "ab", "xyz"]), z.length ≤ 3 ∧ 0 < z.cps.toList.length ∧ ∀ c ∈ z.cps.toList, isLetter ⟨#[c]⟩ = true := by
  decide +kernel
def sp_of_any : Sp := fun vs H Q _ => ∃ (c : Int) (n : Nat), vs = [.int c, .int n] ∧ 1 ≤ n ∧ n ≤ 6 ∧ ∀ p na ru H' (names : List Str) (rs : List Rule), Same H H' → H p = none → H na = none → H ru = none → na ≠ ru → H' p = some (.tup [.ref na, .ref ru]) → H' na = some (.lst (names.map V.str)) →
  (∃ ts : List Addr, H' ru = some (.lst (ts.map V.ref)) ∧ Paired (TrioF H H') ts rs) → areNames names = true → (∀ x ∈ names, ∃ i, i < 6 ∧ CalledAt i x) → GoodR names rs → rs.length ≤ 24 → names.length = n → Q (.ref p) H'
end SG
/-! exception classes over an own base: their __init__ calls the base's -/
namespace SG
open PySem PySem.Spec PyProof.Rows L2 ClX
section
variable {X : Cx} {e : Expr} {es : List Expr} {ta : TA} {p1 p2 pos : Pos} {B : Str} {G : Addr}
/-- B.__init__(self, ..), B an own class over ValueError without an own __init__ -/
theorem pe_goinit {pl : Sem Bool} (hg : Gl X B) (hm : X.mg B = some (.ref G)) (r : CRead X.K G (.type "type")) (vV : PySem.W.findCls X.K (.ref G) (.type "type") "__init__" = some (.val (.builtin "ValueError.__init__"))) (ha : PA X (e :: es) ta)
    (hdb : (B == ("__debug__" : Str)) = false := by decide)
    (hc : eval (.Call (.Attribute (.Name B p1) "__init__" p2) (e :: es) [] pos) X.env = (do
      let ov ← eval (.Name B p1) X.env
      standAt p2.atName
      let (f, first) ← holding [ov] (getMethod ov "__init__" pl)
      callWith pos f first (backTo pos (starEach (e :: es) X.env)) (backToKw pos (keywordEach [] X.env))) := by rfl)
    (he : starEach (e :: es) X.env = (false, eval e X.env) :: starEach es X.env := by rfl) (hpl : (backTo pos (starEach es X.env)).any (·.1) = false := by rfl) :
    PE X (.Call (.Attribute (.Name B p1) "__init__" p2) (e :: es) [] pos) (tVeI X.K ta) := by
  refine ⟨fun pins s σ H Q I h => ?_⟩
  refine PySem.W.methodCall_KW (ld_glob I hg hm ?_ hdb) hc
  have kin := I.kIn
  refine PySem.W.method_cls (s := { s with toks := _ }) kin r.ga (PySem.W.cls_value kin r.rd vV (by decide +kernel) ?_)
  show wpAny _ _ (callWith pos (Value.builtin "ValueError.__init__") [] (backTo pos (starEach (e :: es) X.env)) []) _ _ _
  refine PyProof.Rows.callWith_method1 (thn (ha.run pos pins _ σ H _ (I.tok _) h) fun us s1 ⟨vs, H1, I1, r1, a, C, ws, ev, hl, T, ea, q⟩ => ?_) he hpl
  subst ev
  cases r1 with
  | @cons _ u0 _ ur ra rw' =>
    obtain rfl : u0 = Value.ref a := ra
    have hlen : ur.length ≤ sizeLine := by
      rw [← Paired.length rw', sizeLine_eq]
      omega
    exact oinit_ok T I1 ea hlen fun s' J => ⟨.non, H1, J, rfl, q⟩
end
section
variable {X : Cx} {CX : CXT} {k : Nat} {f C : Addr} {fd : FuncData} {ps : List Str} {sp : Sp} {dvs : List V} {ds : List Value} {E : L2.St → XK} {x : Str} {p pos : Pos} {e : Expr} {es : List Expr} {t : TA}
/-- an instance is made by an __init__ that may raise -/
theorem run_makeS {pins : List (Addr × Obj)} {σ : L2.St} {H : Hp} {s : Shared} {Q : VK} {us : List Value} {vs : List V} (M : Mk X.K C f) (F : FnOk X.prog X.w X.K X.mg X.base CX k f fd ps sp) (hr : Room (k + 1) X.A) (hb : Binds X.K fd ps ds) (hd : Vals dvs ds)
    (hx : PassesAt CX X σ (E σ)) (I : Inv X pins σ H s) (r : Vals vs us)
    (h : ∀ x dx, H x = none → H dx = none → dx ≠ x → sp (.ref x :: (vs ++ dvs)) (upd (upd H dx (.own x)) x (.ins C dx [])) (fun v H2 => v = .non ∧ Q (.ref x) H2) (E σ)) :
    wpAny (model X.prog X.w) X.A (call (.ref C) us) (EP X pins σ Q) X.xe s := by
  have hq := h (s.heap.objs.size + 1) s.heap.objs.size (I.hok.fresh (Nat.le_succ _)) (I.hok.fresh (Nat.le_refl _)) (Nat.ne_of_lt (Nat.lt_succ_self _))
  have I2 := Inv.made (C := C) I
  have r2 : Vals (V.ref (s.heap.objs.size + 1) :: (vs ++ dvs)) (Value.ref (s.heap.objs.size + 1) :: (us ++ ds)) := .cons rfl (r.append hd)
  have hl : (Value.ref (s.heap.objs.size + 1) :: us ++ ds).length = ps.length := by
    have e := r2.length
    rw [F.len _ _ _ _ hq] at e
    exact e.symm
  refine wpAny_call (make_map (f := f) I.kIn M.makes M.init (beq_iff_eq.mp M.fn) (codeAny_mono (F.run _ X.stack _ _ ⟨Value.ref (s.heap.objs.size + 1) :: us, []⟩ (Value.ref (s.heap.objs.size + 1) :: (us ++ ds)) _ _ (E σ) (hr.make C us [])
    (I2.env0.make C us []) (hb _ (Value.ref (s.heap.objs.size + 1) :: us) I2.kIn hl) r2 hq) fun r s' hq' => ?_))
  cases r with
  | error e => exact hx pins _ _ e s' I2 hq'
  | ok fl =>
    cases fl with
    | ret u =>
      obtain ⟨v, H', I3, rv, ev, q3⟩ := I2.after hq'
      subst ev
      exact ⟨rv, ⟨V.ref (s.heap.objs.size + 1), H', I3, rfl, q3⟩⟩
    | next => exact False.elim hq'
    | brk => exact False.elim hq'
    | cont => exact False.elim hq'
def tMakeX (C : Addr) (sp : Sp) (E : L2.St → XK) (t : TA) : TE := fun σ H Q => t σ H fun vs H1 => ∀ x dx, H1 x = none → H1 dx = none → dx ≠ x → sp (.ref x :: (vs ++ [])) (upd (upd H1 dx (.own x)) x (.ins C dx [])) (fun v H2 => v = .non ∧ Q (.ref x) H2) (E σ)
theorem pe_makeX (M : Mk X.K C f) (F : FnOk X.prog X.w X.K X.mg X.base CX k f fd ps sp) (hr : Room (k + 1) X.A) (hg : Gl X x) (hm : X.mg x = some (.ref C)) (hb : Binds X.K fd ps []) (hx : ∀ σ, PassesAt CX X σ (E σ))
    (ha : PA X (e :: es) t) (hdb : (x == ("__debug__" : Str)) = false := by decide) (he : starEach (e :: es) X.env = (false, eval e X.env) :: starEach es X.env := by rfl) (hpl : (backTo pos (starEach es X.env)).any (·.1) = false := by rfl) :
    PE X (.Call (.Name x p) (e :: es) [] pos) (tMakeX C sp E t) := by
  refine ⟨fun pins s σ H Q I h => ?_⟩
  refine wpAny_Call_Name_kw (ld_glob I hg hm ?_ hdb)
  refine PySem.W.callWith_K (h₀ := X.base) I.ok.mod.kin M.kp (thn (ha.run pos pins s σ H _ I h) fun us s1 ⟨vs, H1, I1, r, q⟩ => ⟨I1.kIn, ?_⟩) he hpl
  exact run_makeS M F hr hb .nil (hx σ) I1 r q
end
/-- what is asked of a class of errors: its fields are read, isinstance asks it -/
structure ExcD (K : PySem.W.Frag) (C : Addr) : Prop where
  cl : (PySem.W.clsIn K C).isSome = true
  ga : PySem.W.findIn K (.ref C) "__getattribute__" = some (some (.builtin "BaseException.__getattribute__"))
  gg : PySem.W.findIn K (.ref C) "__getattr__" = some none
  sb : PySem.W.subIn K (.ref C) (.type "BaseException") = some true
  hd : PySem.W.hasDictIn K C = true
  ca : PySem.W.findIn K (.ref C) "__class__" = some (some (.builtin "object.__class__"))
  cg : PySem.W.specialIn K (.builtin "object.__class__") "__get__" = some (some (.builtin "getset_descriptor.__get__"))
  ct : PySem.W.takesIn K (.builtin "object.__class__") = some true
  cm : PySem.W.mroIn K C (.type "object") = some true
section
variable {X : Cx} {a : Addr} {oe : Obj} {cls : Value} {d : Option Addr} {pn : List (Addr × Obj)}
theorem exc_inst {C dd : Addr} {fs : List (Str × V)} {pins : List (Addr × Obj)} {σ : L2.St} {H : Hp} {s : Shared} (hz : Zc (.ref C) (some dd) oe) (hf : ∃ vs, oe.data = .fields vs) (I : Inv (X.suite a ((a, oe) :: pn)) pins σ H s) (hx : H dd = some (.xd fs)) :
    ∃ (od : Obj) (mA : Str → Option Value), PySem.W.InstAt s.heap a oe C (some od) ∧ (∀ y, PySem.W.lookIn y od = some (mA y)) ∧ ∀ g, RelO (fs.lookup g) (mA g) := by
  obtain ⟨ha, _⟩ := I.pin (a, oe) (List.mem_append_left _ List.mem_cons_self)
  obtain ⟨vs, hd⟩ := hf
  have hx : ObjOk X.prog X.w H s.heap dd (.xd fs) := I.hok dd _ hx
  obtain ⟨mA, hns, hr⟩ := hx
  obtain ⟨od, ho, hl⟩ := lookIn_ns hns
  exact ⟨od, mA, ⟨ha, hz.1, by unfold PySem.W.notCls; rw [hd] <;> rfl, by rw [hz.2]; exact ho⟩, hl, hr⟩
/-- e.f, e the error that the suite holds -/
def tExF (K : PySem.W.Frag) (f : Str) (a : Addr) (cls : Value) (d : Option Addr) (te : TE) : TE := fun σ H Q => te σ H fun x H1 => x = .ref a ∧ ∃ (C dd : Addr) (fs : List (Str × V)) (v : V), cls = .ref C ∧ d = some dd ∧ ExcD K C ∧ PySem.W.findIn K (.ref C) f = some none ∧ H1 dd = some (.xd fs) ∧ fs.lookup f = some v ∧ Q v H1
theorem pe_exf {f : Str} {e : Expr} {te : TE} {pos : Pos} (hz : Zc cls d oe) (hf : ∃ vs, oe.data = .fields vs) (he : PE (X.suite a ((a, oe) :: pn)) e te)
    (hb : attributeBase e f X.env (eval e X.env) = eval e X.env := by rfl) :
    PE (X.suite a ((a, oe) :: pn)) (.Attribute e f pos) (tExF X.K f a cls d te) := by
  refine ⟨fun pins s σ H Q I h => ?_⟩
  refine attr_of hb (thn (he.run pins s σ H _ I h) fun u s1 hh => ?_)
  obtain ⟨x, H1, I1, rx, ex, C, dd, fs, v, ec, ed, T, noN, ea, l, q⟩ := hh
  subst ex
  obtain rfl : u = Value.ref a := rx
  subst ec
  subst ed
  obtain ⟨od, mA, J, hl, hr⟩ := exc_inst hz hf I1 ea
  obtain ⟨u, hu, ru⟩ := RelO.some_of (v := v) (o := mA f) (by rw [← l]; exact hr f)
  exact HandSPX.exc_get I1.kIn J T.ga T.gg T.sb (PySem.W.findObj_own T.hd noN rfl (by rw [hl, hu])) (handed_of ru) ⟨v, H1, I1.tok _, ru, q⟩
/-- isinstance(e, c) -/
def rIsD (K : PySem.W.Frag) (a : Addr) (cls : Value) (d : Option Addr) : List V → Hp → VK → Prop := fun xs H Q => ∃ (C dd : Addr) (fs : List (Str × V)) (c : V) (u : Value) (b : Bool), cls = .ref C ∧ d = some dd ∧ ExcD K C ∧ H dd = some (.xd fs) ∧ xs = [.ref a, c] ∧ ClsV c u ∧ PySem.W.kitOne K (.ref C) u = some b ∧ Q (.bl b) H
theorem call_isD (hz : Zc cls d oe) (hf : ∃ vs, oe.data = .fields vs) : CallR (X.suite a ((a, oe) :: pn)) (.builtin "isinstance") (rIsD X.K a cls d) := by
  intro pins s σ H xs us Q I r h
  obtain ⟨C, dd, fs, c, u0, b, rfl, rfl, T, ea, rfl, hcv, e, q⟩ := h
  obtain ⟨u1, u2, rfl, r1, r2⟩ := vals2 r
  cases (show u1 = Value.ref a from r1)
  have e2 := hcv.eq r2
  subst e2
  obtain ⟨od, mA, J, _, _⟩ := exc_inst hz hf I ea
  exact PySem.W.kia_one (PySem.W.kitx_exc T.cl T.ga T.gg T.sb T.ca T.cg T.ct T.cm) I.kIn J e (fun z => nomatch z) fun tk => ⟨.bl b, H, I.tok tk, rfl, q⟩
/-- isinstance(e, (c, ..)) -/
def rIsDT (K : PySem.W.Frag) (a : Addr) (cls : Value) (d : Option Addr) : List V → Hp → VK → Prop := fun xs H Q => ∃ (C dd tp : Addr) (fs : List (Str × V)) (cs : List V) (us : List Value) (b : Bool), cls = .ref C ∧ d = some dd ∧ ExcD K C ∧ H dd = some (.xd fs) ∧ xs = [.ref a, .ref tp] ∧ H tp = some (.tup cs) ∧ Paired ClsV cs us ∧ PySem.W.kitAny K (.ref C) us = some b ∧ Q (.bl b) H
theorem call_isDT (hz : Zc cls d oe) (hf : ∃ vs, oe.data = .fields vs) : CallR (X.suite a ((a, oe) :: pn)) (.builtin "isinstance") (rIsDT X.K a cls d) := by
  intro pins s σ H xs us Q I r h
  obtain ⟨C, dd, tp, fs, cs, ws, b, rfl, rfl, T, ea, rfl, hT, k, e, q⟩ := h
  obtain ⟨u1, u2, rfl, r1, r2⟩ := vals2 r
  cases (show u1 = Value.ref a from r1)
  cases (show u2 = Value.ref tp from r2)
  obtain ⟨od, mA, J, _, _⟩ := exc_inst hz hf I ea
  obtain ⟨_, its, rv, o, h1, h2, n, h3⟩ := (show ObjOk X.prog X.w H s.heap tp (.tup cs) from I.hok tp _ hT)
  have e3 := ClsV.all k rv
  subst e3
  obtain ⟨oc, od2, dt, sl⟩ := o
  simp only at h2 h3
  subst h2 h3
  exact PySem.W.kia_tup (PySem.W.kitx_exc T.cl T.ga T.gg T.sb T.ca T.cg T.ct T.cm) I.kIn J h1 e (fun z => nomatch z) fun tk => ⟨.bl b, H, I.tok tk, rfl, q⟩
end
/-- l.count(x), x plain data, l a list of such -/
def rCntP (K : PySem.W.Frag) : V → List V → Hp → VK → Prop := fun x xs H Q => ∃ (y : V) (ds : List PyData) (d : PyData), xs = [y] ∧ Dp K H x (.list ds) ∧ Dp K H y d ∧ d.depth ≤ 60 ∧ Q (.int ((ds.countP fun z => PyData.eqv z d : Nat) : Int)) H
theorem mt_countP {X : Cx} (hu : X.A.units + 64 < cLine) : MtR X "list.count" (rCntP X.K) := by
  intro pins s σ H x xs v us Q I rx rxs h
  obtain ⟨y, ds, d, rfl, hl, hd, sd, q⟩ := h
  obtain ⟨u, rfl, ry⟩ := rxs.one
  obtain ⟨as, r1⟩ := Dp.reads I (.list ds) x v hl rx
  obtain ⟨bs, r2⟩ := Dp.reads I d y u hd ry
  have hp := dp_plain _ _ hl
  rw [PyData.plain] at hp
  cases r1 with
  | list h1 h2 h3 h4 =>
    exact PySem.SeqAt.count_list_data ⟨_, h1, h2, _, h3⟩ h4 r2 hp (dp_plain _ _ hd) (by omega) ⟨.int _, H, I.tok _, ⟨_, rfl⟩, q⟩
/-! isinstance of an own class, from what the written part says -/
theorem cls_of_dict {K : PySem.W.Frag} {C : Addr} (hd : PySem.W.hasDictIn K C = true) : (PySem.W.clsIn K C).isSome = true := by
  obtain ⟨cd, hc, _⟩ := PySem.W.any_some hd
  rw [hc]
  rfl
theorem kit_ref {K : PySem.W.Frag} {D C : Addr} {b : Bool} (hd : PySem.W.hasDictIn K C = true) (ht : PySem.W.typeIn K (.ref C) = some (.type "type")) (h1 : PySem.W.subIn K (.ref D) (.ref D) = some true) (h2 : PySem.W.subIn K (.ref D) (.ref C) = some b) : PySem.W.kitOne K (.ref D) (.ref C) = some b := by
  unfold PySem.W.kitOne
  by_cases e : D = C
  · subst e
    rw [h1] at h2
    rw [if_pos (by simp)]
    exact h2
  · have hn : ¬ ((Value.ref D == Value.ref C) = true) := fun z => e (Value.ref.inj (beq_iff_eq.mp z))
    rw [if_neg hn]
    show (if ((PySem.W.clsIn K C).isSome && PySem.W.typeIn K (.ref C) == some (.type "type")) = true then PySem.W.subIn K (.ref D) (.ref C) else none) = some b
    have e2 : ((PySem.W.clsIn K C).isSome && PySem.W.typeIn K (.ref C) == some (.type "type")) = true := by rw [cls_of_dict hd, ht] <;> rfl
    rw [if_pos e2]
    exact h2
theorem kit_VE {K : PySem.W.Frag} {D : Addr} {b : Bool} (h2 : PySem.W.subIn K (.ref D) (.type "ValueError") = some b) : PySem.W.kitOne K (.ref D) (.type "ValueError") = some b := by
  unfold PySem.W.kitOne
  have hn : ¬ ((Value.ref D == Value.type "ValueError") = true) := fun z => by
    have := beq_iff_eq.mp z
    cases this
  rw [if_neg hn]
  have e2 : PySem.W.kitMeta "ValueError" = true := by kernel_rfl
  show (if PySem.W.kitMeta "ValueError" = true then PySem.W.subIn K (.ref D) (.type "ValueError") else none) = some b
  rw [if_pos e2]
  exact h2
theorem rVE0 : PySem.HandSPX.refsVE [.type "ValueError", .type "Exception", .type "BaseException", .type "object"] = true := by decide +kernel
theorem rVE {E : Addr} : PySem.HandSPX.refsVE [.ref E, .type "ValueError", .type "Exception", .type "BaseException", .type "object"] = true := rVE0
end SG
namespace SG
open PySem PySem.Spec PyProof.Rows L2
def topS (i : Nat) : Stmt := PySem.Challenge.pw_samegoing_k02_what_is_no_grammar.main.body.getD i (.Pass ⟨0, 0, 0, 0⟩)
abbrev s_is_small : Stmt := topS 18
abbrev s_is_name : Stmt := topS 19
abbrev s_is_letter : Stmt := topS 20
abbrev s_are_names : Stmt := topS 21
abbrev s_NoGrammar___init__ : Stmt := inClass (topS 3) 0
abbrev s_Grammar___init__ : Stmt := inClass (topS 22) 0
abbrev s_Grammar_lets_by : Stmt := inClass (topS 22) 1
abbrev s_Grammar_names : Stmt := inClass (topS 22) 2
abbrev s_Grammar_rules : Stmt := inClass (topS 22) 5
abbrev s__law_digits : Stmt := topS 25
abbrev s__law_next_of : Stmt := topS 26
abbrev s__law_called : Stmt := topS 27
abbrev s__law_drawn : Stmt := topS 28
abbrev s__law_built : Stmt := topS 29
abbrev s__law_is_name : Stmt := topS 30
abbrev s__law_due : Stmt := topS 31
abbrev s__law_odd : Stmt := topS 32
abbrev s__law_spoilt : Stmt := topS 33
abbrev s__law_told : Stmt := topS 34
abbrev s_law : Stmt := topS 35
structure Ad where
  c_Grammar : Addr
  c_NoGrammar : Addr
  c_GoError : Addr
  c_NoText : Addr
  c_NoName : Addr
  c_Endless : Addr
  c_TooLarge : Addr
  c_NotSimple : Addr
  c_Taken : Addr
  c_InUse : Addr
  c_NoRule : Addr
  c_Nothing : Addr
  a_is_small : Addr
  d_is_small : FuncData
  a_is_name : Addr
  d_is_name : FuncData
  a_is_letter : Addr
  d_is_letter : FuncData
  a_are_names : Addr
  d_are_names : FuncData
  a_NoGrammar___init__ : Addr
  d_NoGrammar___init__ : FuncData
  a_Grammar___init__ : Addr
  d_Grammar___init__ : FuncData
  a_Grammar_lets_by : Addr
  d_Grammar_lets_by : FuncData
  a_Grammar_names : Addr
  d_Grammar_names : FuncData
  a_Grammar_rules : Addr
  d_Grammar_rules : FuncData
  a__law_digits : Addr
  d__law_digits : FuncData
  a__law_next_of : Addr
  d__law_next_of : FuncData
  a__law_called : Addr
  d__law_called : FuncData
  a__law_drawn : Addr
  d__law_drawn : FuncData
  a__law_built : Addr
  d__law_built : FuncData
  a__law_is_name : Addr
  d__law_is_name : FuncData
  a__law_due : Addr
  d__law_due : FuncData
  a__law_odd : Addr
  d__law_odd : FuncData
  a__law_spoilt : Addr
  d__law_spoilt : FuncData
  a__law_told : Addr
  d__law_told : FuncData
structure Txt (K : PySem.W.Frag) (mg : Str → Option Value) (A : Ad) : Prop where
  cl_Grammar : Cls K A.c_Grammar
  g_Grammar : mg "Grammar" = some (.ref A.c_Grammar)
  n_Grammar_known : NoAttr K A.c_Grammar "known"
  n_Grammar_stored : NoAttr K A.c_Grammar "stored"
  n_Grammar_order : NoAttr K A.c_Grammar "order"
  mk_Grammar : Mk K A.c_Grammar A.a_Grammar___init__
  g_NoGrammar : mg "NoGrammar" = some (.ref A.c_NoGrammar)
  g_GoError : mg "GoError" = some (.ref A.c_GoError)
  g_NoText : mg "NoText" = some (.ref A.c_NoText)
  g_NoName : mg "NoName" = some (.ref A.c_NoName)
  g_Endless : mg "Endless" = some (.ref A.c_Endless)
  g_TooLarge : mg "TooLarge" = some (.ref A.c_TooLarge)
  g_NotSimple : mg "NotSimple" = some (.ref A.c_NotSimple)
  g_Taken : mg "Taken" = some (.ref A.c_Taken)
  g_InUse : mg "InUse" = some (.ref A.c_InUse)
  g_NoRule : mg "NoRule" = some (.ref A.c_NoRule)
  g_Nothing : mg "Nothing" = some (.ref A.c_Nothing)
  ox_NoGrammar : OexC K A.c_NoGrammar
  xi_NoGrammar : PySem.W.findIn K (.ref A.c_NoGrammar) "__init__" = some (some (.ref A.a_NoGrammar___init__))
  xt_NoGrammar : PySem.W.typeIn K (.ref A.a_NoGrammar___init__) = some (.type "function")
  xd_NoGrammar : ExcD K A.c_NoGrammar
  xm_NoGrammar : PySem.W.exmOne K (.ref A.c_NoGrammar) (.ref A.c_GoError) = some true
  nx_NoGrammar_at : PySem.W.findIn K (.ref A.c_NoGrammar) "at" = some none
  cr_GoError : ClX.CRead K A.c_GoError (.type "type")
  vi_GoError : PySem.W.findCls K (.ref A.c_GoError) (.type "type") "__init__" = some (.val (.builtin "ValueError.__init__"))
  ki_NoGrammar_NoText : PySem.W.kitOne K (.ref A.c_NoGrammar) (.ref A.c_NoText) = some false
  ki_NoGrammar_NoName : PySem.W.kitOne K (.ref A.c_NoGrammar) (.ref A.c_NoName) = some false
  ki_NoGrammar_Endless : PySem.W.kitOne K (.ref A.c_NoGrammar) (.ref A.c_Endless) = some false
  ki_NoGrammar_TooLarge : PySem.W.kitOne K (.ref A.c_NoGrammar) (.ref A.c_TooLarge) = some false
  ki_NoGrammar_NotSimple : PySem.W.kitOne K (.ref A.c_NoGrammar) (.ref A.c_NotSimple) = some false
  ki_NoGrammar_Taken : PySem.W.kitOne K (.ref A.c_NoGrammar) (.ref A.c_Taken) = some false
  ki_NoGrammar_InUse : PySem.W.kitOne K (.ref A.c_NoGrammar) (.ref A.c_InUse) = some false
  ki_NoGrammar_NoRule : PySem.W.kitOne K (.ref A.c_NoGrammar) (.ref A.c_NoRule) = some false
  ki_NoGrammar_Nothing : PySem.W.kitOne K (.ref A.c_NoGrammar) (.ref A.c_Nothing) = some false
  ki_NoGrammar_NoGrammar : PySem.W.kitOne K (.ref A.c_NoGrammar) (.ref A.c_NoGrammar) = some true
  ki_NoGrammar_ValueError : PySem.W.kitOne K (.ref A.c_NoGrammar) (.type "ValueError") = some true
  F_is_small : Fun K "is_small" "is_small" s_is_small A.a_is_small A.d_is_small
  g_is_small : mg "is_small" = some (.ref A.a_is_small)
  b_is_small : Binds K A.d_is_small ["text"] []
  F_is_name : Fun K "is_name" "is_name" s_is_name A.a_is_name A.d_is_name
  g_is_name : mg "is_name" = some (.ref A.a_is_name)
  b_is_name : Binds K A.d_is_name ["text"] []
  F_is_letter : Fun K "is_letter" "is_letter" s_is_letter A.a_is_letter A.d_is_letter
  g_is_letter : mg "is_letter" = some (.ref A.a_is_letter)
  b_is_letter : Binds K A.d_is_letter ["text"] []
  F_are_names : Fun K "are_names" "are_names" s_are_names A.a_are_names A.d_are_names
  g_are_names : mg "are_names" = some (.ref A.a_are_names)
  b_are_names : Binds K A.d_are_names ["names"] []
  F_NoGrammar___init__ : Fun K "__init__" "NoGrammar.__init__" s_NoGrammar___init__ A.a_NoGrammar___init__ A.d_NoGrammar___init__
  b_NoGrammar___init__ : Binds K A.d_NoGrammar___init__ ["self", "at"] []
  F_Grammar___init__ : Fun K "__init__" "Grammar.__init__" s_Grammar___init__ A.a_Grammar___init__ A.d_Grammar___init__
  m_Grammar___init__ : Meth K A.c_Grammar "__init__" A.a_Grammar___init__
  b_Grammar___init__ : Binds K A.d_Grammar___init__ ["self", "names", "rules"] []
  F_Grammar_lets_by : Fun K "lets_by" "Grammar.lets_by" s_Grammar_lets_by A.a_Grammar_lets_by A.d_Grammar_lets_by
  m_Grammar_lets_by : Meth K A.c_Grammar "lets_by" A.a_Grammar_lets_by
  b_Grammar_lets_by : Binds K A.d_Grammar_lets_by ["self", "rule"] []
  F_Grammar_names : Fun K "names" "Grammar.names" s_Grammar_names A.a_Grammar_names A.d_Grammar_names
  m_Grammar_names : Meth K A.c_Grammar "names" A.a_Grammar_names
  b_Grammar_names : Binds K A.d_Grammar_names ["self"] []
  F_Grammar_rules : Fun K "rules" "Grammar.rules" s_Grammar_rules A.a_Grammar_rules A.d_Grammar_rules
  m_Grammar_rules : Meth K A.c_Grammar "rules" A.a_Grammar_rules
  b_Grammar_rules : Binds K A.d_Grammar_rules ["self"] []
  F__law_digits : Fun K "_law_digits" "_law_digits" s__law_digits A.a__law_digits A.d__law_digits
  g__law_digits : mg "_law_digits" = some (.ref A.a__law_digits)
  b__law_digits : Binds K A.d__law_digits ["_law_cell_here", "_law_many"] []
  F__law_next_of : Fun K "_law_next_of" "_law_next_of" s__law_next_of A.a__law_next_of A.d__law_next_of
  g__law_next_of : mg "_law_next_of" = some (.ref A.a__law_next_of)
  b__law_next_of : Binds K A.d__law_next_of ["_law_state"] []
  F__law_called : Fun K "_law_called" "_law_called" s__law_called A.a__law_called A.d__law_called
  g__law_called : mg "_law_called" = some (.ref A.a__law_called)
  b__law_called : Binds K A.d__law_called ["_law_state", "_law_many"] []
  F__law_drawn : Fun K "_law_drawn" "_law_drawn" s__law_drawn A.a__law_drawn A.d__law_drawn
  g__law_drawn : mg "_law_drawn" = some (.ref A.a__law_drawn)
  b__law_drawn : Binds K A.d__law_drawn ["_law_state", "_law_names", "_law_most"] []
  F__law_built : Fun K "_law_built" "_law_built" s__law_built A.a__law_built A.d__law_built
  g__law_built : mg "_law_built" = some (.ref A.a__law_built)
  b__law_built : Binds K A.d__law_built ["_law_cell_here", "_law_many"] []
  F__law_is_name : Fun K "_law_is_name" "_law_is_name" s__law_is_name A.a__law_is_name A.d__law_is_name
  g__law_is_name : mg "_law_is_name" = some (.ref A.a__law_is_name)
  b__law_is_name : Binds K A.d__law_is_name ["_law_text"] []
  F__law_due : Fun K "_law_due" "_law_due" s__law_due A.a__law_due A.d__law_due
  g__law_due : mg "_law_due" = some (.ref A.a__law_due)
  b__law_due : Binds K A.d__law_due ["_law_names", "_law_rules"] []
  F__law_odd : Fun K "_law_odd" "_law_odd" s__law_odd A.a__law_odd A.d__law_odd
  g__law_odd : mg "_law_odd" = some (.ref A.a__law_odd)
  b__law_odd : Binds K A.d__law_odd ["_law_number"] []
  F__law_spoilt : Fun K "_law_spoilt" "_law_spoilt" s__law_spoilt A.a__law_spoilt A.d__law_spoilt
  g__law_spoilt : mg "_law_spoilt" = some (.ref A.a__law_spoilt)
  b__law_spoilt : Binds K A.d__law_spoilt ["_law_names", "_law_rules", "_law_way", "_law_at", "_law_number"] []
  F__law_told : Fun K "_law_told" "_law_told" s__law_told A.a__law_told A.d__law_told
  g__law_told : mg "_law_told" = some (.ref A.a__law_told)
  b__law_told : Binds K A.d__law_told ["_law_names", "_law_rules"] []
  c_SMALL : ∃ t, mg "SMALL" = some (.str "abcdefghijklmnopqrstuvwxyz" t)
  c_MOST_NAMES : ∃ t, mg "MOST_NAMES" = some (.int 6 t)
  c_MOST_RULES : ∃ t, mg "MOST_RULES" = some (.int 4 t)
  c_MOST_ROW : ∃ t, mg "MOST_ROW" = some (.int 3 t)
  len : mg "len" = none
  set_ : mg "set" = none
  all : mg "all" = none
  list_ : mg "list" = none
  enumerate : mg "enumerate" = none
  range : mg "range" = none
  sum : mg "sum" = none
  isinstance : mg "isinstance" = none
  ValueError : mg "ValueError" = none
theorem sc_is_small : FnScope ["text", "sign"] ["text"] (defScope s_is_small) := ⟨rfl, rfl, rfl, by decide +kernel, rfl, by decide +kernel, by decide +kernel⟩
theorem sc_is_name : FnScope ["text"] ["text"] (defScope s_is_name) := ⟨rfl, rfl, rfl, by decide +kernel, rfl, by decide +kernel, by decide +kernel⟩
theorem sc_is_letter : FnScope ["text"] ["text"] (defScope s_is_letter) := ⟨rfl, rfl, rfl, by decide +kernel, rfl, by decide +kernel, by decide +kernel⟩
theorem sc_are_names : FnScope ["names", "name"] ["names"] (defScope s_are_names) := ⟨rfl, rfl, rfl, by decide +kernel, rfl, by decide +kernel, by decide +kernel⟩
theorem sc_NoGrammar___init__ : FnScope ["self", "at"] ["self", "at"] (defScope s_NoGrammar___init__) := ⟨rfl, rfl, rfl, by decide +kernel, rfl, by decide +kernel, by decide +kernel⟩
theorem sc_Grammar___init__ : FnScope ["self", "names", "rules", "name", "at", "rule"] ["self", "names", "rules"] (defScope s_Grammar___init__) := ⟨rfl, rfl, rfl, by decide +kernel, rfl, by decide +kernel, by decide +kernel⟩
theorem sc_Grammar_lets_by : FnScope ["self", "rule", "name", "letter", "row", "one"] ["self", "rule"] (defScope s_Grammar_lets_by) := ⟨rfl, rfl, rfl, by decide +kernel, rfl, by decide +kernel, by decide +kernel⟩
theorem sc_Grammar_names : FnScope ["self"] ["self"] (defScope s_Grammar_names) := ⟨rfl, rfl, rfl, by decide +kernel, rfl, by decide +kernel, by decide +kernel⟩
theorem sc_Grammar_rules : FnScope ["self", "met", "found", "name", "at", "letter", "row"] ["self"] (defScope s_Grammar_rules) := ⟨rfl, rfl, rfl, by decide +kernel, rfl, by decide +kernel, by decide +kernel⟩
theorem sc__law_digits : FnScope ["_law_cell_here", "_law_many", "_law_row", "_law_rest", "_law_number", "_law_k"] ["_law_cell_here", "_law_many"] (defScope s__law_digits) := ⟨rfl, rfl, rfl, by decide +kernel, rfl, by decide +kernel, by decide +kernel⟩
theorem sc__law_next_of : FnScope ["_law_state"] ["_law_state"] (defScope s__law_next_of) := ⟨rfl, rfl, rfl, by decide +kernel, rfl, by decide +kernel, by decide +kernel⟩
theorem sc__law_called : FnScope ["_law_state", "_law_many", "_law_names", "_law_k", "_law_word", "_law_j"] ["_law_state", "_law_many"] (defScope s__law_called) := ⟨rfl, rfl, rfl, by decide +kernel, rfl, by decide +kernel, by decide +kernel⟩
theorem sc__law_drawn : FnScope ["_law_state", "_law_names", "_law_most", "_law_k"] ["_law_state", "_law_names", "_law_most"] (defScope s__law_drawn) := ⟨rfl, rfl, rfl, by decide +kernel, rfl, by decide +kernel, by decide +kernel⟩
theorem sc__law_built : FnScope ["_law_cell_here", "_law_many", "_law_state", "_law_names", "_law_letters", "_law_reach", "_law_rules", "_law_k", "_law_row", "_law_j", "_law_rule", "_law_turn", "_law_at", "_law_name"] ["_law_cell_here", "_law_many"] (defScope s__law_built) := ⟨rfl, rfl, rfl, by decide +kernel, rfl, by decide +kernel, by decide +kernel⟩
theorem sc__law_is_name : FnScope ["_law_text", "_law_good", "_law_sign"] ["_law_text"] (defScope s__law_is_name) := ⟨rfl, rfl, rfl, by decide +kernel, rfl, by decide +kernel, by decide +kernel⟩
theorem sc__law_due : FnScope ["_law_names", "_law_rules", "_law_k", "_law_name", "_law_letter", "_law_row", "_law_one"] ["_law_names", "_law_rules"] (defScope s__law_due) := ⟨rfl, rfl, rfl, by decide +kernel, rfl, by decide +kernel, by decide +kernel⟩
theorem sc__law_odd : FnScope ["_law_number", "_law_some"] ["_law_number"] (defScope s__law_odd) := ⟨rfl, rfl, rfl, by decide +kernel, rfl, by decide +kernel, by decide +kernel⟩
theorem sc__law_spoilt : FnScope ["_law_names", "_law_rules", "_law_way", "_law_at", "_law_number", "_law_name", "_law_letter", "_law_row", "_law_some"] ["_law_names", "_law_rules", "_law_way", "_law_at", "_law_number"] (defScope s__law_spoilt) := ⟨rfl, rfl, rfl, by decide +kernel, rfl, by decide +kernel, by decide +kernel⟩
theorem sc__law_told : FnScope ["_law_names", "_law_rules", "_law_grammar", "e", "_law_others"] ["_law_names", "_law_rules"] (defScope s__law_told) := ⟨rfl, rfl, rfl, by decide +kernel, rfl, by decide +kernel, by decide +kernel⟩
theorem sc_law : FnScope ["_law_script", "_law_cells", "_law_cell_here", "_law_row", "_law_names", "_law_rules", "_law_k", "_law_due_here", "_law_found"] ["_law_script"] (defScope s_law) := ⟨rfl, rfl, rfl, by decide +kernel, rfl, by decide +kernel, by decide +kernel⟩
end SG
namespace SG
open PySem PySem.Spec PyProof.Rows L2
section
variable {P : Program} {w : World} {K : PySem.W.Frag} {mg : Str → Option Value} {base : Heap} {A : Ad}
def sp_is_small : Sp := fun vs H Q _ => ∃ x : Str, vs = [.str x] ∧ x.length ≤ 1000000 ∧ ∀ H', Same H H' → Q (.bl (isSmall x)) H'
theorem ok_is_small (T : Txt K mg A) : FnOk P w K mg base CX0 1 A.a_is_small A.d_is_small ["text"] sp_is_small := by
  refine T.F_is_small.ok sc_is_small (fun vs H Q E h => ?_) (fun cdv A0 outer s H vs Q E hr h => ?_)
  · obtain ⟨x, rfl, _⟩ := h
    rfl
  · obtain ⟨x, rfl, hx, q⟩ := h
    refine ⟨_, (pss_one (ps_ret (pe_callB (id := "all") (r := rAll K) (cr_all rfl) (by rfl) T.all (by decide +kernel) (pa_cons (pe_lc (own := [("sign", 1)]) (g := gName 1) (by rfl) sc_is_small.nd (pi_str (pv 0)) (blkOk_by (own := [("sign", 1)]) (N := ["text", "sign"]) (sc := defScope s_is_small) (by decide +kernel)) (fun _ _ _ _ _ => (pg_name (i := 1) sc_is_small.nd rfl (Or.inl rfl))) (fun _ _ _ _ _ => pts_nil) (fun _ _ _ _ _ => (pe_cmpR op_in_sign (pv 1) (pe_glob (v := .str "abcdefghijklmnopqrstuvwxyz") (by rfl) T.c_SMALL.choose_spec ⟨_, rfl⟩) (by rfl)))) pa_nil)))), ?_⟩
    refine ⟨_, rfl, x, rfl, fun D hD => lc_scalS (ys := (x.cps.toList.map fun c => decide (c ∈ abcS.cps.toList)).map V.bl) hD (by rw [List.length_map, List.length_map, Array.length_toList]; rfl) hx (fun _ => rfl) (fun i c y H' Q' h1 h2 _ k => ?_) (fun H' sm hl => ?_)⟩
    · rw [List.map_map] at h2
      have e := map_get h1 h2
      subst e
      exact ⟨_, rfl, c, abcS, rfl, rfl, k H' (Same.refl _)⟩
    · refine ⟨D, x.cps.toList.map fun c => decide (c ∈ abcS.cps.toList), rfl, SqL.of hl, ?_⟩
      have e : (x.cps.toList.map fun c => decide (c ∈ abcS.cps.toList)).all id = isSmall x := by
        unfold isSmall
        rw [List.all_map]
        rfl
      rw [e]
      exact q H' sm
def sp_is_name : Sp := fun vs H Q _ => ∃ x : Str, vs = [.str x] ∧ x.length ≤ 1000000 ∧ ∀ H', Same H H' → Q (.bl (isName x)) H'
theorem ok_is_name (T : Txt K mg A) : FnOk P w K mg base CX0 2 A.a_is_name A.d_is_name ["text"] sp_is_name := by
  have G_is_small : FnOk P w K mg base CX0 1 A.a_is_small A.d_is_small ["text"] sp_is_small := ok_is_small T
  refine T.F_is_name.ok sc_is_name (fun vs H Q E h => ?_) (fun cdv A0 outer s H vs Q E hr h => ?_)
  · obtain ⟨x, rfl, _⟩ := h
    rfl
  · obtain ⟨x, rfl, hx, q⟩ := h
    refine ⟨_, (pss_one (ps_ret (pe_and (pe_chain op_le op_le pe_int (pe_callB (id := "len") call_len_str (by rfl) T.len (by decide +kernel) (pa_cons (pv 0) pa_nil)) pe_int) (pe_and (pe_call G_is_small (hr.mono (by decide)) (by rfl) T.g_is_small T.F_is_small.kp T.b_is_small .nil pass0 (pa_cons (pv 0) pa_nil)) (pe_one (pe_cmpR op_ne (pv 0) pe_str (nomark _))))))), ?_⟩
    have hz : x.length ≤ sizeLine := sl2 hx
    have fin : ∀ b c : Bool, isName x = (b && c && isSmall x && decide (x ≠ ("names" : Str))) → b = false → isName x = false := fun b c e h => by rw [e, h]; rfl
    refine ⟨_, rfl, x, rfl, hz, _, _, rfl, rfl, _, rfl, iteB (fun h1 => ?_) (fun h1 => ?_)⟩
    · have h1' : (1 : Int) ≤ (x.length : Int) := of_decide_eq_true h1
      refine ⟨_, _, rfl, rfl, _, rfl, iteB (fun h2 => ?_) (fun h2 => ?_)⟩
      · have h2' : (x.length : Int) ≤ 8 := of_decide_eq_true h2
        refine ⟨_, rfl, x, rfl, hx, fun H' sm => ⟨_, rfl, iteB (fun h3 => ?_) (fun h3 => ?_)⟩⟩
        · refine ⟨_, rfl, rfl, ?_⟩
          have e : isName x = !decide (V.str x = V.str ("names" : Str)) := by
            unfold isName
            rw [h3, decide_eq_true (show 1 ≤ x.length by omega), decide_eq_true (show x.length ≤ 8 by omega)]
            by_cases e : x = ("names" : Str)
            · simp [e]
            · simp [e]
          rw [← e]
          exact q H' sm
        · have e : isName x = false := by unfold isName; rw [h3]; simp
          rw [← e]
          exact q H' sm
      · have e : isName x = false := by
          have : ¬ x.length ≤ 8 := fun z => of_decide_eq_false h2 (by show ((x.length : Nat) : Int) ≤ 8; omega)
          unfold isName
          rw [decide_eq_false this]
          simp
        rw [← e]
        exact q H (Same.refl _)
    · have e : isName x = false := by
        have : ¬ 1 ≤ x.length := fun z => of_decide_eq_false h1 (by show (1 : Int) ≤ ((x.length : Nat) : Int); omega)
        unfold isName
        rw [decide_eq_false this]
        simp
      refine ⟨_, rfl, iteF ?_⟩
      rw [← e]
      exact q H (Same.refl _)
def sp_is_letter : Sp := fun vs H Q _ => ∃ x : Str, vs = [.str x] ∧ x.length ≤ 1000000 ∧ ∀ H', Same H H' → Q (.bl (isLetter x)) H'
theorem ok_is_letter (T : Txt K mg A) : FnOk P w K mg base CX0 2 A.a_is_letter A.d_is_letter ["text"] sp_is_letter := by
  have G_is_small : FnOk P w K mg base CX0 1 A.a_is_small A.d_is_small ["text"] sp_is_small := ok_is_small T
  refine T.F_is_letter.ok sc_is_letter (fun vs H Q E h => ?_) (fun cdv A0 outer s H vs Q E hr h => ?_)
  · obtain ⟨x, rfl, _⟩ := h
    rfl
  · obtain ⟨x, rfl, hx, q⟩ := h
    refine ⟨_, (pss_one (ps_ret (pe_and (pe_cmpR op_eq (pe_callB (id := "len") call_len_str (by rfl) T.len (by decide +kernel) (pa_cons (pv 0) pa_nil)) pe_int (nomark _)) (pe_one (pe_call G_is_small (hr.mono (by decide)) (by rfl) T.g_is_small T.F_is_small.kp T.b_is_small .nil pass0 (pa_cons (pv 0) pa_nil)))))), ?_⟩
    refine ⟨_, rfl, x, rfl, sl2 hx, rfl, _, rfl, iteB (fun h1 => ?_) (fun h1 => ?_)⟩
    · have h1' : (x.length : Int) = 1 := V.int.inj (of_decide_eq_true h1)
      refine ⟨_, rfl, x, rfl, hx, fun H' sm => ?_⟩
      have e : isLetter x = isSmall x := by
        unfold isLetter
        rw [decide_eq_true (show x.length = 1 by omega)]
        rfl
      rw [← e]
      exact q H' sm
    · have e : isLetter x = false := by
        have : ¬ x.length = 1 := fun z => of_decide_eq_false h1 (by rw [z]; rfl)
        unfold isLetter
        rw [decide_eq_false this]
        rfl
      rw [← e]
      exact q H (Same.refl _)
def sp_are_names (K : PySem.W.Frag) : Sp := fun vs H Q _ => ∃ (a : Addr) (xs : List Str), vs = [.ref a] ∧ SqL K H a (xs.map V.str) ∧ xs.length ≤ 1000 ∧ (∀ x ∈ xs, x.length ≤ 1000000) ∧ ∀ H', Same H H' → Q (.bl (areNames xs)) H'
theorem ok_are_names (T : Txt K mg A) : FnOk P w K mg base CX0 3 A.a_are_names A.d_are_names ["names"] (sp_are_names K) := by
  have G_is_name : FnOk P w K mg base CX0 2 A.a_is_name A.d_is_name ["text"] sp_is_name := ok_is_name T
  refine T.F_are_names.ok sc_are_names (fun vs H Q E h => ?_) (fun cdv A0 outer s H vs Q E hr h => ?_)
  · obtain ⟨x, xs, rfl, _⟩ := h
    rfl
  · obtain ⟨a, xs, rfl, hS, hlen, hx, q⟩ := h
    refine ⟨_, (pss_one (ps_ret (pe_and (pe_chain op_le op_le pe_int (pe_callB (id := "len") (r := Evl.rLenS K) call_len_seq (by rfl) T.len (by decide +kernel) (pa_cons (pv 0) pa_nil)) (pe_glob (v := .int 6) (by rfl) T.c_MOST_NAMES.choose_spec ⟨_, rfl⟩)) (pe_and (pe_cmpR op_eq (pe_lenSetS (by rfl) T.len (by rfl) T.set_ (pv 0)) (pe_callB (id := "len") (r := Evl.rLenS K) call_len_seq (by rfl) T.len (by decide +kernel) (pa_cons (pv 0) pa_nil)) (nomark _)) (pe_one (pe_callB (id := "all") (r := rAll K) (cr_all rfl) (by rfl) T.all (by decide +kernel) (pa_cons (pe_lc (own := [("name", 1)]) (g := gName 1) (by rfl) sc_are_names.nd (pi_list (pv 0)) (blkOk_by (own := [("name", 1)]) (N := ["names", "name"]) (sc := defScope s_are_names) (by decide +kernel)) (fun _ _ _ _ _ => (pg_name (i := 1) sc_are_names.nd rfl (Or.inl rfl))) (fun _ _ _ _ _ => pts_nil) (fun _ _ _ _ _ => (pe_call G_is_name (hr.mono (by decide)) (by rfl) T.g_is_name T.F_is_name.kp T.b_is_name .nil pass0 (pa_cons (pv 1) pa_nil)))) pa_nil))))))), ?_⟩
    have no : ∀ {b : Bool}, areNames xs = b → Q (.bl b) H := fun e => by rw [← e]; exact q H (Same.refl _)
    refine ⟨_, rfl, a, _, rfl, .inl hS, _, _, rfl, rfl, _, rfl, iteB (fun h1 => ?_) (fun h1 => ?_)⟩
    · have h1' : (1 : Int) ≤ ((xs.map V.str).length : Int) := of_decide_eq_true h1
      rw [List.length_map] at h1'
      refine ⟨_, _, rfl, rfl, _, rfl, iteB (fun h2 => ?_) (fun h2 => ?_)⟩
      · have h2' : ((xs.map V.str).length : Int) ≤ 6 := of_decide_eq_true h2
        rw [List.length_map] at h2'
        refine ⟨_, rfl, a, xs, rfl, hS, hlen, _, rfl, a, _, rfl, .inl hS, rfl, _, rfl, iteB (fun h3 => ?_) (fun h3 => ?_)⟩
        · have nd : xs.Nodup := by
            have e := V.int.inj (of_decide_eq_true h3)
            rw [List.length_map] at e
            exact (once_nodup xs).mp (by omega)
          refine ⟨_, rfl, a, rfl, ⟨_, hS⟩, fun D hD => lc_scal (K := K) (ys := (xs.map isName).map V.bl) hS hD (by simp) (by rw [List.length_map]; omega) (fun _ => rfl) (fun i x y H' Q' g1 g2 sm k => ?_) (fun H' sm hl => ?_)⟩
          · obtain ⟨n, hn, rfl⟩ := map_at g1
            rw [List.map_map] at g2
            have e := map_get hn g2
            subst e
            exact ⟨_, rfl, n, rfl, hx n (List.mem_of_getElem? hn), fun H'' e => k H'' e⟩
          · refine ⟨D, xs.map isName, rfl, SqL.of hl, ?_⟩
            have e : (xs.map isName).all id = areNames xs := by
              unfold areNames
              rw [decide_eq_true nd, decide_eq_true (show 1 ≤ xs.length by omega), decide_eq_true (show xs.length ≤ 6 by omega), List.all_map]
              rfl
            rw [e]
            exact q H' sm
        · refine no ?_
          have nd : ¬ xs.Nodup := fun z => of_decide_eq_false h3 (by rw [(once_nodup xs).mpr z, List.length_map])
          unfold areNames
          rw [decide_eq_false nd]
          simp
      · refine no ?_
        have : ¬ xs.length ≤ 6 := fun z => of_decide_eq_false h2 (by show (((xs.map V.str).length : Nat) : Int) ≤ 6; rw [List.length_map]; omega)
        unfold areNames
        rw [decide_eq_false this]
        simp
    · refine ⟨_, rfl, iteF (no ?_)⟩
      have : ¬ 1 ≤ xs.length := fun z => of_decide_eq_false h1 (by show (1 : Int) ≤ (((xs.map V.str).length : Nat) : Int); rw [List.length_map]; omega)
      unfold areNames
      rw [decide_eq_false this]
      simp
end
section
variable {P : Program} {w : World} {K : PySem.W.Frag} {mg : Str → Option Value} {base : Heap} {A : Ad}
/-! ### telling -/
def sp_G_names (C : Addr) : Sp := fun vs H Q _ => ∃ (g : Addr) (names : List Str) (rs : List Rule), vs = [.ref g] ∧ GramAt C H g names rs ∧ ∀ p H', H p = none → Same H H' → H' p = some (.lst (names.map V.str)) → Q (.ref p) H'
theorem ok_Grammar_names (T : Txt K mg A) : FnOk P w K mg base CX0 1 A.a_Grammar_names A.d_Grammar_names ["self"] (sp_G_names A.c_Grammar) := by
  refine T.F_Grammar_names.ok sc_Grammar_names (fun vs H Q E h => ?_) (fun cdv A0 outer s H vs Q E hr h => ?_)
  · obtain ⟨g, _, _, rfl, _⟩ := h
    rfl
  · obtain ⟨g, names, rs, rfl, G, q⟩ := h
    obtain ⟨dx, kn, st, od, ls, h1, h2, h3, h4⟩ := G.ex
    refine ⟨_, (pss_one (ps_ret (pe_callTy (T := "list") (r := Evl.rListS K) call_list_of (by rfl) T.list_ (by decide +kernel) (pa_cons (pe_fld (pv 0) rfl) pa_nil)))), ?_⟩
    exact ⟨_, rfl, g, _, _, _, _, rfl, h1, T.cl_Grammar, T.n_Grammar_known, gfs_known _ _ _, kn, _, rfl, .inl (SqL.of h2), fun l hl => q l _ hl (same_new hl) upd_same⟩
def RowN (H H' : Hp) (D t : Addr) (r : Str × List Str) : Prop := H t = none ∧ t ≠ D ∧ ∃ w, H w = none ∧ w ≠ D ∧ H' t = some (.tup [.str r.1, .ref w]) ∧ H' w = some (.lst (r.2.map V.str))
def TrioN (H H' : Hp) (D me t : Addr) (r : Rule) : Prop := H t = none ∧ t ≠ D ∧ t ≠ me ∧ ∃ w, H w = none ∧ w ≠ D ∧ w ≠ me ∧ H' t = some (.tup [.str r.1, .str r.2.1, .ref w]) ∧ H' w = some (.lst (r.2.2.map V.str))
def cntN (ns : List Str) (n : Str) : Nat := (ns.filter fun x => decide (x = n)).length
theorem cntN_snoc (ns : List Str) (x n : Str) : cntN (ns ++ [x]) n = if x = n then cntN ns n + 1 else cntN ns n := by
  unfold cntN
  rw [List.filter_append, List.length_append]
  by_cases e : x = n
  · simp [e]
  · simp [e]
theorem rulesOf_at : ∀ {rs : List Rule} {i : Nat} {r : Rule}, rs[i]? = some r → (rulesOf rs r.1)[cntN ((rs.take i).map (·.1)) r.1]? = some r.2
  | [], i, r, h => by simp at h
  | x :: rs, 0, r, h => by
    have e : x = r := Option.some.inj h
    subst e
    unfold rulesOf cntN
    simp
  | x :: rs, i + 1, r, h => by
    have ih := rulesOf_at (rs := rs) (i := i) (r := r) (by simpa using h)
    rw [List.take_succ_cons, List.map_cons]
    unfold rulesOf cntN at *
    by_cases e : x.1 = r.1
    · simp only [List.filter_cons, e, decide_true, if_true, List.map_cons, List.length_cons, List.getElem?_cons_succ]
      exact ih
    · simp only [List.filter_cons, e, decide_false, Bool.false_eq_true, if_false]
      exact ih
/-- met: how often each name stood so far -/
def MetAt (kvs : List (Key × V)) (ns : List Str) : Prop := ∀ n : Str, (cntN ns n = 0 → valV kvs (Sum.inr n : Key) = none) ∧ (cntN ns n ≠ 0 → valV kvs (Sum.inr n : Key) = some (.int (cntN ns n)))
def sp_G_rules (C : Addr) : Sp := fun vs H Q _ => ∃ (g : Addr) (names : List Str) (rs : List Rule), vs = [.ref g] ∧ GramAt C H g names rs ∧ (∀ r ∈ rs, r.1 ∈ names) ∧ rs.length ≤ 1000 ∧ ∀ p H', NewTrios H H' p rs → Q (.ref p) H'
theorem ok_Grammar_rules (T : Txt K mg A) : FnOk P w K mg base CX0 1 A.a_Grammar_rules A.d_Grammar_rules ["self"] (sp_G_rules A.c_Grammar) := by
  refine T.F_Grammar_rules.ok sc_Grammar_rules (fun vs H Q E h => ?_) (fun cdv A0 outer s H vs Q E hr h => ?_)
  · obtain ⟨g, _, _, rfl, _⟩ := h
    rfl
  · obtain ⟨g, names, rs, rfl, G, hin, hlen, q⟩ := h
    have hu := hu_of hr
    obtain ⟨dx, kn, st, od, ls, h1, h2, h3, h4⟩ := G.ex
    refine ⟨_, (pss_cons (ps_set (i := 1) sc_Grammar_rules.nd rfl (Or.inl rfl) pe_dnewK)
 (pss_cons (ps_set (i := 2) sc_Grammar_rules.nd rfl (Or.inl rfl) (pe_lst pa_nil))
 (pss_cons (ps_for PassesOwn.never rfl (pi_list (pe_fld (pv 0) rfl)) (pg_name (i := 3) sc_Grammar_rules.nd rfl (Or.inl rfl))
 (pss_cons (ps_set (i := 4) sc_Grammar_rules.nd rfl (Or.inl rfl) (pe_dget2 hu (pv 1) (pv 3) pe_int ⟨rfl, rfl, rfl, rfl⟩))
 (pss_cons (ps_dput hu (pv 1) (pv 3) (pe_op op_add (pv 4) pe_int) rfl)
 (pss_cons (ps_asg (pe_ix (r := rIxL K) ix_list (pe_dget hu (pe_fld (pv 0) rfl) (pv 3) (fun _ _ => rfl)) (pv 4) (fun _ _ => rfl)) (pg_tup (by rfl) (pgs_cons (pg_name (i := 5) sc_Grammar_rules.nd rfl (Or.inl rfl)) (pgs_cons (pg_name (i := 6) sc_Grammar_rules.nd rfl (Or.inl rfl)) pgs_nil))))
 (pss_one (ps_expr (pe_bm PySem.F.plainAttrs_list PySem.F.slot_list_append PySem.F.type_list_append mt_append (pv 2) (pa_cons (pe_tup (pa_cons (pv 3) (pa_cons (pv 5) (pa_cons (pe_callTy (T := "list") (r := Evl.rListS K) call_list_of (by rfl) T.list_ (by decide +kernel) (pa_cons (pv 6) pa_nil)) pa_nil)))) pa_nil))))))))
 (pss_one (ps_ret (pv 2)))))), ?_⟩
    intro me hme
    refine ⟨Nat.zero_le _, fun D hD => ?_⟩
    have nmD : me ≠ D := ne_of_none upd_same hD
    have hD0 : H D = none := (same_new hme).free hD
    have sm0 : Same H (upd (upd H me (.dK [])) D (.lst [])) := (same_new hme).trans (same_new hD)
    refine ⟨_, rfl, g, _, _, _, _, rfl, sm0 _ _ h1, T.cl_Grammar, T.n_Grammar_order, gfs_order _ _ _, od, rfl, ⟨_, SqL.of (sm0 _ _ h4)⟩, for_list (K := K) (a := od) (xs := (rs.map (·.1)).map V.str)
      (fun i σ' H' => ∃ (x3 x4 x5 x6 : Option V) (kvs : List (Key × V)) (us : List Addr), σ' = [some (.ref g), some (.ref me), some (.ref D), x3, x4, x5, x6] ∧ Same H H' ∧ H' me = some (.dK kvs) ∧ MetAt kvs ((rs.take i).map (·.1)) ∧ kvs.length ≤ i ∧ H' D = some (.lst (us.map V.ref)) ∧
        Paired (TrioN H H' D me) us (rs.take i)) ?_ ?_ ?_ ?_⟩
    · exact ⟨none, none, none, none, [], [], rfl, sm0, by rw [upd_ne nmD, upd_same], fun n => ⟨fun _ => rfl, fun h => absurd rfl h⟩, Nat.le_refl _, upd_same, .nil⟩
    · rintro i σ' H' _ ⟨_, _, _, _, _, _, rfl, sm, _⟩
      exact SqL.of (sm _ _ h4)
    · rintro i x σ' H1 hi ⟨x3, x4, x5, x6, kvs, us, rfl, sm, hm, hM, hk, hu1, hu2⟩
      obtain ⟨n, hn, rfl⟩ := map_at hi
      rw [List.getElem?_map] at hn
      obtain ⟨r, hr1, rfl⟩ : ∃ r, rs[i]? = some r ∧ r.1 = n := by
        cases e : rs[i]? with
        | none => rw [e] at hn; cases hn
        | some r => rw [e] at hn; exact ⟨r, rfl, Option.some.inj hn⟩
      have hil := (List.getElem?_eq_some_iff.mp hr1).1
      have hat := rulesOf_at hr1
      generalize hc : cntN ((rs.take i).map (·.1)) r.1 = c at hat
      -- at = met.get(name, 0)
      have hget : ∃ o, DGet H1 me (.str r.1) o ∧ o.getD (.int 0) = .int (c : Int) := by
        refine ⟨valV kvs (Sum.inr r.1 : Key), DGet.k (k := Sum.inr r.1) hm, ?_⟩
        by_cases e : c = 0
        · rw [(hM r.1).1 (by rw [hc, e]), e]; rfl
        · rw [(hM r.1).2 (by rw [hc]; exact e), hc]; rfl
      obtain ⟨o, ho, eo⟩ := hget
      refine ⟨_, rfl, me, rfl, .inl ⟨kvs, .inl hm⟩, _, rfl, o, ho, ?_⟩
      rw [eo]
      -- met[name] = at + 1
      refine ⟨_, rfl, _, _, rfl, rfl, _, rfl, _, rfl, me, _, rfl, DPut.k (k := Sum.inr r.1) hm (sl1 (by omega)), ?_⟩
      generalize hkv : putK kvs (Sum.inr r.1 : Key) (V.int ((c : Int) + 1)) = kvs2
      have sm1 : Same H (upd H1 me (.dK kvs2)) := same_mut sm hme
      have hD1 : (upd H1 me (.dK kvs2)) D = some (.lst (us.map V.ref)) := by rw [upd_ne nmD.symm]; exact hu1
      -- letter, row = self.stored[name][at]
      rcases h3.look r.1 with ⟨_, f⟩ | ⟨j, l, _, _, el, _, ts, ht, hp⟩
      · exact absurd (hin r (List.mem_of_getElem? hr1)) f
      have hts : ts.length = (rulesOf rs r.1).length := paired_len hp
      have hcl := (List.getElem?_eq_some_iff.mp hat).1
      have htc : ts[c]? = some (ts[c]'(by omega)) := List.getElem?_eq_getElem (by omega)
      obtain ⟨w0, hw1, hw2⟩ := paired_ix hp htc hat
      refine ⟨_, rfl, g, _, _, _, _, rfl, sm1 _ _ h1, T.cl_Grammar, T.n_Grammar_stored, gfs_stored _ _ _, _, rfl, st, _, rfl, .inl ⟨_, Sum.inr r.1, .inl (sm1 _ _ h3.1), rfl, el.symm⟩, _, rfl, l, _, _, _, rfl, rfl, SqL.of (sm1 _ _ ht), atI_nat (by rw [List.getElem?_map, htc]; rfl), ?_⟩
      refine ⟨_, _, rfl, SqT.of (sm1 _ _ hw1), rfl, _, _, rfl, _, _, rfl, rfl, ?_⟩
      -- found.append((name, letter, list(row)))
      refine ⟨_, rfl, .inl ⟨rfl, _, SqL.of hD1⟩, _, rfl, _, rfl, _, rfl, w0, _, rfl, .inl (SqL.of (sm1 _ _ hw2)), fun w hw => ⟨sl2 (by show 3 ≤ 1000000; decide), fun u hu3 => ?_⟩⟩
      have sm2 := (same_new hw (o := .lst (r.2.2.map V.str))).trans (same_new hu3 (o := .tup [.str r.1, .str r.2.1, .ref w]))
      have hme1 : (upd H1 me (.dK kvs2)) me = some (.dK kvs2) := upd_same
      have nwD : w ≠ D := fun z => by rw [z, hD1] at hw; cases hw
      have nwm : w ≠ me := fun z => by rw [z, hme1] at hw; cases hw
      have nuD : u ≠ D := fun z => by rw [z, same_new hw _ _ hD1] at hu3; cases hu3
      have num : u ≠ me := fun z => by rw [z, same_new hw _ _ hme1] at hu3; cases hu3
      have hDu := sm2 _ _ hD1
      have hwU : (upd (upd (upd H1 me (.dK kvs2)) w (.lst (r.2.2.map V.str))) u (.tup [.str r.1, .str r.2.1, .ref w])) w = some (.lst (r.2.2.map V.str)) := by rw [upd_ne (ne_of_none upd_same hu3), upd_same]
      refine ⟨D, _, _, rfl, rfl, hDu, by rw [List.length_map, paired_len hu2, List.length_take]; exact sl1 (by omega), ?_⟩
      refine ⟨_, _, _, _, kvs2, us ++ [u], rfl, same_mut (sm1.trans sm2) hD0, by rw [upd_ne nmD]; exact sm2 _ _ hme1, ?_, ?_, by rw [upd_same, List.map_append]; rfl, ?_⟩
      · intro n
        rw [take_snoc hr1, List.map_append, List.map_cons, List.map_nil, cntN_snoc, ← hkv, valV_put]
        by_cases e : r.1 = n
        · subst e
          rw [if_pos rfl, if_pos rfl, hc]
          exact ⟨fun z => by omega, fun _ => by push_cast; rfl⟩
        · rw [if_neg e, if_neg (fun z => e (Sum.inr.inj z).symm)]
          exact hM n
      · rw [← hkv]
        have := putK_le kvs (Sum.inr r.1 : Key) (V.int ((c : Int) + 1))
        omega
      · rw [take_snoc hr1]
        refine paired_app (F := TrioN H _ D me) ⟨sm1.free (Same.free (same_new hw) hu3), nuD, num, w, sm1.free hw, nwD, nwm, ?_, ?_⟩ (Paired.mapP hu2 fun t r ⟨a1, a2, a2m, w, a3, a4, a4m, a5, a6⟩ => ⟨a1, a2, a2m, w, a3, a4, a4m, ?_, ?_⟩)
        · rw [upd_ne nuD, upd_same]
        · rw [upd_ne nwD]; exact hwU
        · rw [upd_ne a2]; exact sm2 _ _ (by rw [upd_ne a2m]; exact a5)
        · rw [upd_ne a4]; exact sm2 _ _ (by rw [upd_ne a4m]; exact a6)
    · rintro σ' H1 ⟨x3, x4, x5, x6, kvs, us, rfl, sm, hm, hM, hk, hu1, hu2⟩
      rw [List.length_map, List.length_map, List.take_length] at hu2
      exact ⟨_, rfl, q D H1 ⟨hD0, sm, us, hu1, Paired.mapP hu2 fun t r ⟨a1, _, _, w, a3, _, _, a5, a6⟩ => ⟨a1, w, a3, a5, a6⟩⟩⟩
end
end SG
namespace SG
open PySem PySem.Spec PyProof.Rows L2
section
variable {P : Program} {w : World} {K : PySem.W.Frag} {mg : Str → Option Value} {base : Heap} {A : Ad}
/-! ### making -/
theorem dec_any {p : Prop} (i j : Decidable p) : @decide p i = @decide p j := by rw [Subsingleton.elim i j]
def RuleX (H0 H : Hp) (bad : List Addr) (t : Addr) (p : Str × List Str) : Prop := H0 t = none ∧ ∃ w, H0 w = none ∧ w ∉ bad ∧ H t = some (.tup [.str p.1, .ref w]) ∧ H w = some (.lst (p.2.map V.str))
def ListX (H0 H : Hp) (bad : List Addr) (l : Addr) (ps : List (Str × List Str)) : Prop := ∃ ts : List Addr, H l = some (.lst (ts.map V.ref)) ∧ Paired (RuleX H0 H bad) ts ps
structure Bld (C g dx kn st od : Addr) (H H' : Hp) (names : List Str) (ls : List Addr) (rs : List Rule) : Prop where
  base : ∀ b o, H b = some o → b ≠ g → H' b = some o
  ins : H' g = some (.ins C dx (gfs kn st od))
  hkn : H' kn = some (.lst (names.map V.str))
  sd : H' st = some (.dK (zipK names ls))
  hod : H' od = some (.lst ((rs.map (·.1)).map V.str))
  nd : ls.Nodup
  frl : ∀ l ∈ ls, H l = none
  fro : H od = none
  frk : H kn = none
  frs : H st = none
  knb : kn ∉ od :: ls
  odl : od ∉ ls
  prs : Paired (fun n l => ListX H H' (od :: ls) l (rulesOf rs n)) names ls
theorem Bld.stored {C g dx kn st od : Addr} {H H' : Hp} {names : List Str} {ls : List Addr} {rs : List Rule} (b : Bld C g dx kn st od H H' names ls rs) : StoredAt H' st names ls (rulesOf rs) :=
  ⟨b.sd, Paired.mapP b.prs fun _ _ ⟨ts, h1, h2⟩ => ⟨ts, h1, Paired.mapP h2 fun _ _ ⟨_, w, _, _, h3, h4⟩ => ⟨w, h3, h4⟩⟩, b.nd⟩
/-- new things are laid -/
theorem Bld.same {C g dx kn st od : Addr} {H H' H2 : Hp} {names : List Str} {ls : List Addr} {rs : List Rule} (b : Bld C g dx kn st od H H' names ls rs) (e : Same H' H2) : Bld C g dx kn st od H H2 names ls rs where
  base := fun x o h n => e _ _ (b.base x o h n)
  ins := e _ _ b.ins
  hkn := e _ _ b.hkn
  sd := e _ _ b.sd
  hod := e _ _ b.hod
  nd := b.nd
  frl := b.frl
  fro := b.fro
  frk := b.frk
  frs := b.frs
  knb := b.knb
  odl := b.odl
  prs := Paired.mapP b.prs fun _ _ ⟨ts, h1, h2⟩ => ⟨ts, e _ _ h1, Paired.mapP h2 fun _ _ ⟨a0, w, b0, h0, h3, h4⟩ => ⟨a0, w, b0, h0, e _ _ h3, e _ _ h4⟩⟩
theorem paired_all {α β : Type} {F : α → β → Prop} : ∀ {xs : List α} {ys : List β}, xs.length = ys.length → (∀ (i : Nat) x y, xs[i]? = some x → ys[i]? = some y → F x y) → Paired F xs ys
  | [], [], _, _ => .nil
  | x :: xs, y :: ys, h, k => .cons (k 0 x y rfl rfl) (paired_all (by simpa using h) fun i a b h1 h2 => k (i + 1) a b h1 h2)
theorem Bld.fresh {C g dx kn st od : Addr} {H H' : Hp} {names : List Str} {ls : List Addr} {rs : List Rule} (b : Bld C g dx kn st od H H' names ls rs) {x : Addr} (h : H' x = none) : H x = none := by
  cases e : H x with
  | none => rfl
  | some o =>
    by_cases n : x = g
    · rw [n, b.ins] at h; cases h
    · rw [b.base x o e n] at h; cases h
/-- what lies in cells of its own stays, whatever becomes of the others -/
theorem Bld.keep {C g dx kn st od : Addr} {H H' H2 : Hp} {names : List Str} {ls : List Addr} {rs : List Rule} (b : Bld C g dx kn st od H H' names ls rs) (e : ∀ a o, H' a = some o → a = g ∨ H a = none → H2 a = some o) : GramAt C H2 g names rs :=
  ⟨dx, kn, st, od, ls, e _ _ b.ins (.inl rfl), e _ _ b.hkn (.inr b.frk), ⟨e _ _ b.sd (.inr b.frs), paired_all (paired_len b.prs) fun i n l h1 h2 => by
    obtain ⟨ts, g1, g2⟩ := paired_ix b.prs h1 h2
    exact ⟨ts, e _ _ g1 (.inr (b.frl l (List.mem_of_getElem? h2))), Paired.mapP g2 fun t p ⟨a0, w, b0, _, h3, h4⟩ => ⟨w, e _ _ h3 (.inr a0), e _ _ h4 (.inr b0)⟩⟩, b.nd⟩, e _ _ b.hod (.inr b.fro)⟩
/-- a rule's tuple is put behind those of its name, and its name behind the order -/
theorem Bld.put {C g dx kn st od : Addr} {H H' H2 : Hp} {names : List Str} {ls : List Addr} {rs : List Rule} (b : Bld C g dx kn st od H H' names ls rs) {r : Rule} {l t w : Addr} {j : Nat} {ts : List Addr} (nN : names.Nodup) (hj : names[j]? = some r.1) (hl : ls[j]? = some l) (hts : H' l = some (.lst (ts.map V.ref)))
    (ht0 : H t = none) (hw0 : H w = none) (ht : H' t = some (.tup [.str r.2.1, .ref w])) (hw : H' w = some (.lst (r.2.2.map V.str))) (hwb : w ∉ od :: ls) (e2 : H2 = upd (upd H' l (.lst (ts.map V.ref ++ [.ref t]))) od (.lst ((rs.map (·.1)).map V.str ++ [.str r.1]))) : Bld C g dx kn st od H H2 names ls (rs ++ [r]) := by
  have hlm : l ∈ ls := List.mem_of_getElem? hl
  have nlo : l ≠ od := fun z => b.odl (z ▸ hlm)
  have kp : ∀ (x : Addr) (o : HO), H' x = some o → x ≠ l → x ≠ od → H2 x = some o := fun x o h n1 n2 => by rw [e2, upd_ne n2, upd_ne n1]; exact h
  have hl2 : H2 l = some (.lst ((ts ++ [t]).map V.ref)) := by rw [e2, upd_ne nlo, upd_same, List.map_append]; rfl
  have tup_kp : ∀ (x : Addr) (vs : List V), H' x = some (.tup vs) → H2 x = some (.tup vs) := fun x vs h => kp x _ h (ne_of h hts (by intro z; cases z)) (ne_of h b.hod (by intro z; cases z))
  have nb : ∀ {x : Addr}, x ∉ od :: ls → x ≠ l ∧ x ≠ od := fun h => ⟨fun z => h (z ▸ List.mem_cons_of_mem _ hlm), fun z => h (z ▸ List.mem_cons_self)⟩
  have hkn := nb b.knb
  have rk : ∀ (t : Addr) (p : Str × List Str), RuleX H H' (od :: ls) t p → RuleX H H2 (od :: ls) t p := fun t p ⟨a0, w, b0, h0, h1, h2⟩ => ⟨a0, w, b0, h0, tup_kp _ _ h1, kp _ _ h2 (nb h0).1 (nb h0).2⟩
  refine ⟨fun x o h n => kp x o (b.base x o h n) (ne_of_none h (b.frl l hlm)) (ne_of_none h b.fro), kp _ _ b.ins (ne_of b.ins hts (by intro z; cases z)) (ne_of b.ins b.hod (by intro z; cases z)), kp _ _ b.hkn hkn.1 hkn.2, kp _ _ b.sd (ne_of b.sd hts (by intro z; cases z)) (ne_of b.sd b.hod (by intro z; cases z)), by rw [e2, upd_same, List.map_append, List.map_append]; rfl, b.nd, b.frl, b.fro, b.frk, b.frs, b.knb, b.odl, ?_⟩
  refine paired_all (paired_len b.prs) fun i n l' h1 h2 => ?_
  obtain ⟨ts', g1, g2⟩ := paired_ix b.prs h1 h2
  rw [rulesOf_snoc]
  by_cases e : i = j
  · subst e
    rw [hj] at h1
    rw [hl] at h2
    have en := Option.some.inj h1
    have el := Option.some.inj h2
    subst en el
    rw [if_pos rfl]
    rw [hts] at g1
    have ets : ts' = ts := by
      have := HO.lst.inj (Option.some.inj g1)
      have inj : ∀ {a b : List Addr}, a.map V.ref = b.map V.ref → a = b := fun {a b} h => by
        refine List.map_inj_right (fun x y q => V.ref.inj q) |>.mp h
      exact (inj this).symm
    subst ets
    exact ⟨ts' ++ [t], hl2, paired_app (F := RuleX H H2 (od :: ls)) ⟨ht0, w, hw0, hwb, tup_kp _ _ ht, kp _ _ hw (nb hwb).1 (nb hwb).2⟩ (Paired.mapP g2 fun t p h => rk t p h)⟩
  · have ne1 : ¬ r.1 = n := fun z => e (nd_ix nN h1 (z ▸ hj))
    have ne2 : l' ≠ l := fun z => e (nd_ix b.nd h2 (z ▸ hl))
    rw [if_neg ne1]
    exact ⟨ts', kp _ _ g1 ne2 (fun z => b.odl (z ▸ List.mem_of_getElem? h2)), Paired.mapP g2 fun t p h => rk t p h⟩
def sp_lets_by (C : Addr) : Sp := fun vs H Q _ => ∃ (g t dx kn st od : Addr) (ls : List Addr) (names : List Str) (rs : List Rule) (r : Rule), vs = [.ref g, .ref t] ∧ H g = some (.ins C dx (gfs kn st od)) ∧ StoredAt H st names ls (rulesOf rs) ∧ TrioAt H t r ∧ r.2.1.length ≤ 1000000 ∧ r.2.2.length ≤ 1000 ∧ (rulesOf rs r.1).length ≤ 1000 ∧
  ∀ H', Same H H' → Q (.bl (letsBy names rs r)) H'
theorem ok_Grammar_lets_by (T : Txt K mg A) : FnOk P w K mg base CX0 3 A.a_Grammar_lets_by A.d_Grammar_lets_by ["self", "rule"] (sp_lets_by A.c_Grammar) := by
  have G_is_letter : FnOk P w K mg base CX0 2 A.a_is_letter A.d_is_letter ["text"] sp_is_letter := ok_is_letter T
  refine T.F_Grammar_lets_by.ok sc_Grammar_lets_by (fun vs H Q E h => ?_) (fun cdv A0 outer s H vs Q E hr h => ?_)
  · obtain ⟨g, t, _, _, _, _, _, _, _, _, rfl, _⟩ := h
    rfl
  · obtain ⟨g, t, dx, kn, st, od, ls, names, rs, ⟨n, c, row⟩, rfl, hg, hst, ⟨w0, ht, hw0⟩, hc, hrow, hrl, q⟩ := h
    dsimp only at ht hw0 hc hrow hrl
    have hu := hu_of hr
    have hu64 := hu64_of hr
    refine ⟨_, (pss_cons (ps_asg (pv 1) (pg_tup (by rfl) (pgs_cons (pg_name (i := 2) sc_Grammar_lets_by.nd rfl (Or.inl rfl)) (pgs_cons (pg_name (i := 3) sc_Grammar_lets_by.nd rfl (Or.inl rfl)) (pgs_cons (pg_name (i := 4) sc_Grammar_lets_by.nd rfl (Or.inl rfl)) pgs_nil)))))
 (pss_cons (ps_if (PW.pt (pw_or (pt_cmp (pc_dnotin hu (pv 2) (pe_fld (pv 0) rfl))) (pw_or (pt_not (pt_val (pe_call G_is_letter (hr.mono (by decide)) (by rfl) T.g_is_letter T.F_is_letter.kp T.b_is_letter .nil pass0 (pa_cons (pv 3) pa_nil)))) (pw_or1 (pt_cmpR op_gt (pe_callB (id := "len") (r := Evl.rLenS K) call_len_seq (by rfl) T.len (by decide +kernel) (pa_cons (pv 4) pa_nil)) (pe_glob (v := .int 3) (by rfl) T.c_MOST_ROW.choose_spec ⟨_, rfl⟩) (nomark _)))))) (pss_one (ps_ret pe_bl)) pss_nil)
 (pss_cons (ps_if (pt_not (pt_val (pe_callB (id := "all") (r := rAll K) (cr_all rfl) (by rfl) T.all (by decide +kernel) (pa_cons (pe_lc (own := [("one", 5)]) (g := gName 5) (by rfl) sc_Grammar_lets_by.nd (pi_list (pv 4)) (blkOk_by (own := [("one", 5)]) (N := ["self", "rule", "name", "letter", "row", "one"]) (sc := defScope s_Grammar_lets_by) (by decide +kernel)) (fun _ _ _ _ _ => (pg_name (i := 5) sc_Grammar_lets_by.nd rfl (Or.inl rfl))) (fun _ _ _ _ _ => pts_nil) (fun _ _ _ _ _ => (pe_cmp (pc_din hu (pv 5) (show PE _ _ (tFld K _ _) from (pe_fld (pv 0) rfl))) rfl))) pa_nil)))) (pss_one (ps_ret pe_bl)) pss_nil)
 (pss_one (ps_ret (pe_and (pe_cmpR op_lt (pe_callB (id := "len") (r := Evl.rLenS K) call_len_seq (by rfl) T.len (by decide +kernel) (pa_cons (pe_dget hu (pe_fld (pv 0) rfl) (pv 2) (fun _ _ => rfl)) pa_nil)) (pe_glob (v := .int 4) (by rfl) T.c_MOST_RULES.choose_spec ⟨_, rfl⟩) (nomark _)) (pe_one (pe_cmpR (r := rNotInP K) (op_notInP hu64) (pe_tup (pa_cons (pv 3) (pa_cons (pe_callTy (T := "list") (r := Evl.rListS K) call_list_of (by rfl) T.list_ (by decide +kernel) (pa_cons (pv 4) pa_nil)) pa_nil))) (pe_dget hu (pe_fld (pv 0) rfl) (pv 2) (fun _ _ => rfl)) (by rfl))))))))), ?_⟩
    have no : ∀ {H' : Hp}, Same H H' → letsBy names rs (n, c, row) = false → Q (.bl false) H' := fun sm e => by rw [← e]; exact q _ sm
    refine ⟨_, rfl, t, _, rfl, SqT.of ht, rfl, _, _, rfl, _, _, rfl, _, _, rfl, rfl, ?_⟩
    -- name not in self.stored
    refine ⟨_, rfl, _, rfl, g, _, _, _, _, rfl, hg, T.cl_Grammar, T.n_Grammar_stored, gfs_stored _ _ _, st, _, rfl, DGet.k (k := Sum.inr n) hst.1, _, rfl, ?_⟩
    rcases hst.look n with ⟨e, f⟩ | ⟨j, l, hj, hl, e, f, hL⟩
    · rw [e]
      refine iteT (no (Same.refl _) ?_)
      unfold letsBy
      rw [decide_eq_false f]
      rfl
    rw [e]
    refine iteF ?_
    -- not is_letter(letter)
    refine ⟨_, rfl, c, rfl, hc, fun H1 sm1 => ⟨_, rfl, iteB (fun h2 => ?_) (fun h2 => ?_)⟩⟩
    · refine no sm1 ?_
      have : isLetter c = false := by simpa using h2
      unfold letsBy
      simp [this]
    have hlet : isLetter c = true := by simpa using h2
    -- len(row) > MOST_ROW
    refine ⟨_, rfl, w0, _, rfl, .inl (SqL.of (sm1 _ _ hw0)), _, _, rfl, rfl, _, rfl, iteB (fun h3 => ?_) (fun h3 => ?_)⟩
    · refine no sm1 ?_
      have h3' : (3 : Int) < ((row.map V.str).length : Nat) := of_decide_eq_true h3
      rw [List.length_map] at h3'
      have : ¬ row.length ≤ 3 := by omega
      unfold letsBy
      simp [this]
    have h3' : ¬ (3 : Int) < ((row.map V.str).length : Nat) := of_decide_eq_false h3
    rw [List.length_map] at h3'
    have hrl3 : row.length ≤ 3 := by omega
    -- all([one in self.stored for one in row])
    refine ⟨_, rfl, w0, rfl, ⟨_, SqL.of (sm1 _ _ hw0)⟩, fun D hD => lc_scal (K := K) (ys := (row.map fun x => decide (x ∈ names)).map V.bl) (SqL.of (sm1 _ _ hw0)) hD (by simp) (by rw [List.length_map]; omega) (fun _ => rfl) (fun i x y H' Q' g1 g2 sm k => ?_) (fun H2 sm2 hl2 => ?_)⟩
    · obtain ⟨x, hx, rfl⟩ := map_at g1
      rw [List.map_map] at g2
      have ey := map_get hx g2
      subst ey
      have smx := sm1.trans sm
      refine ⟨_, rfl, _, rfl, g, _, _, _, _, rfl, smx _ _ hg, T.cl_Grammar, T.n_Grammar_stored, gfs_stored _ _ _, st, _, rfl, DGet.k (k := Sum.inr x) (smx _ _ hst.1), ?_⟩
      have fin := k H' (Same.refl _)
      rcases hst.look x with ⟨e, f⟩ | ⟨_, _, _, _, e, f, _⟩
      · rw [e]
        show Q' (V.bl false) H'
        have : (V.bl ∘ fun x => decide (x ∈ names)) x = V.bl false := by show V.bl (decide (x ∈ names)) = _; rw [decide_eq_false f]
        rw [this] at fin
        exact fin
      · rw [e]
        show Q' (V.bl true) H'
        have : (V.bl ∘ fun x => decide (x ∈ names)) x = V.bl true := by show V.bl (decide (x ∈ names)) = _; rw [decide_eq_true f]
        rw [this] at fin
        exact fin
    have smx := sm1.trans sm2
    refine ⟨D, _, rfl, SqL.of hl2, _, rfl, iteB (fun h4 => ?_) (fun h4 => ?_)⟩
    · refine no smx ?_
      have : (row.all fun x => decide (x ∈ names)) = false := by rw [List.all_map] at h4; simpa using h4
      unfold letsBy
      rw [this]
      simp
    have hall : (row.all fun x => decide (x ∈ names)) = true := by rw [List.all_map] at h4; simpa using h4
    -- the rest
    obtain ⟨ts, ht1, ht2⟩ := hL
    have htl : ts.length = (rulesOf rs n).length := paired_len ht2
    refine ⟨_, rfl, g, _, _, _, _, rfl, smx _ _ hg, T.cl_Grammar, T.n_Grammar_stored, gfs_stored _ _ _, _, rfl, st, _, rfl, .inl ⟨_, Sum.inr n, .inl (smx _ _ hst.1), rfl, e.symm⟩, l, _, rfl, .inl (SqL.of (smx _ _ ht1)), _, _, rfl, rfl, _, rfl, iteB (fun h5 => ?_) (fun h5 => ?_)⟩
    · have h5' : ((ts.map V.ref).length : Int) < 4 := of_decide_eq_true h5
      rw [List.length_map, htl] at h5'
      refine ⟨_, rfl, _, rfl, w0, _, rfl, .inl (SqL.of (smx _ _ hw0)), fun w hw => ⟨sl2 (by show 2 ≤ 1000000; decide), fun u hu3 => ?_⟩⟩
      have sm3 := (same_new hw (o := .lst (row.map V.str))).trans (same_new hu3 (o := .tup [.str c, .ref w]))
      have smy := smx.trans sm3
      have hwU : (upd (upd H2 w (.lst (row.map V.str))) u (.tup [.str c, .ref w])) w = some (.lst (row.map V.str)) := by rw [upd_ne (ne_of_none upd_same hu3), upd_same]
      refine ⟨_, rfl, g, _, _, _, _, rfl, smy _ _ hg, T.cl_Grammar, T.n_Grammar_stored, gfs_stored _ _ _, _, rfl, st, _, rfl, .inl ⟨_, Sum.inr n, .inl (smy _ _ hst.1), rfl, e.symm⟩, ?_⟩
      refine ⟨eRow (c, row), (rulesOf rs n).map eRow, dp_row ⟨w, upd_same, hwU⟩, .inl (dp_rows (ListAt.same smy ⟨ts, ht1, ht2⟩)), Nat.le_trans (dep_Row _) (by decide), ?_⟩
      rw [any_enc enc_Row]
      have e9 : letsBy names rs (n, c, row) = !decide ((c, row) ∈ rulesOf rs n) := by
        unfold letsBy
        rw [hall]
        simp [f, hlet, hrl3, show (rulesOf rs n).length < 4 by omega]
      have z := q _ smy
      rw [e9] at z
      exact Eq.mp (congrArg (fun b => Q (V.bl (!b)) _) (dec_any _ _)) z
    · refine no smx ?_
      have h5' : ¬ ((ts.map V.ref).length : Int) < 4 := of_decide_eq_false h5
      rw [List.length_map, htl] at h5'
      have : ¬ (rulesOf rs n).length < 4 := by omega
      unfold letsBy
      rw [decide_eq_false this]
      simp
end
end SG
namespace SG
open PySem PySem.Spec PyProof.Rows L2
section
variable {P : Program} {w : World} {K : PySem.W.Frag} {mg : Str → Option Value} {base : Heap} {A : Ad}
theorem rulesOf_len (rs : List Rule) (n : Str) : (rulesOf rs n).length ≤ rs.length := by
  unfold rulesOf
  rw [List.length_map]
  exact List.length_filter_le _ _
theorem putK_fresh {names : List Str} {ls : List Addr} {n : Str} {l : Addr} (hl : names.length = ls.length) (h : n ∉ names) : putK (zipK names ls) (Sum.inr n : Key) (V.ref l) = zipK (names ++ [n]) (ls ++ [l]) := by
  have e : valV (zipK names ls) (Sum.inr n : Key) = none := by
    rcases zipK_val hl n with ⟨h1, _⟩ | ⟨_, _, _, _, _, h2⟩
    · exact h1
    · exact absurd h2 h
  rw [putK_new _ e]
  unfold zipK
  rw [List.zipWith_append hl]
  rfl
/-- the first thing that is none: -1 of the names, or the number of a rule -/
def dueG (names : List Str) (rs : List Rule) : Option Int := if areNames names = true then Option.map (fun k : Nat => (k : Int)) ((List.range rs.length).find? fun k => match rs[k]? with | some r => !letsBy names (rs.take k) r | none => false) else some (-1)
theorem dueG_at {names : List Str} {rs : List Rule} {i : Nat} {r : Rule} (ha : areNames names = true) (h : ∀ k r, k < i → rs[k]? = some r → letsBy names (rs.take k) r = true) (hr : rs[i]? = some r) (hb : letsBy names (rs.take i) r = false) : dueG names rs = some (i : Int) := by
  unfold dueG
  rw [if_pos ha]
  have e : ((List.range rs.length).find? fun k => match rs[k]? with | some r => !letsBy names (rs.take k) r | none => false) = some i := by
    rw [List.find?_range_eq_some]
    refine ⟨?_, List.mem_range.mpr (List.getElem?_eq_some_iff.mp hr).1, fun j hj => ?_⟩
    · rw [hr]
      simp [hb]
    · have hjl : j < rs.length := Nat.lt_trans hj (List.getElem?_eq_some_iff.mp hr).1
      rw [List.getElem?_eq_getElem hjl]
      simp [h j rs[j] hj (List.getElem?_eq_getElem hjl)]
  rw [e]
  rfl
theorem dueG_none {names : List Str} {rs : List Rule} (ha : areNames names = true) (h : rulesOk names rs) : dueG names rs = none := by
  unfold dueG
  rw [if_pos ha, Option.map_eq_none_iff, List.find?_eq_none]
  intro k hk
  cases hr : rs[k]? with
  | none => simp
  | some r => simp [h k r hr]
theorem dueG_names {names : List Str} {rs : List Rule} (ha : areNames names = false) : dueG names rs = some (-1) := by
  unfold dueG
  rw [if_neg (by rw [ha]; exact Bool.false_ne_true)]
def sp_ng (CE : Addr) : Sp := fun vs H Q _ => ∃ (a : Addr) (v : V), vs = [.ref a, v] ∧ H a = some (exo a CE none) ∧ ∀ dx, H dx = none → dx ≠ a → Q .non (upd (upd H dx (exd dx [(("at" : Str), v)])) a (exo a CE (some dx)))
theorem ok_NoGrammar___init__ (T : Txt K mg A) : FnOk P w K mg base CX0 1 A.a_NoGrammar___init__ A.d_NoGrammar___init__ ["self", "at"] (sp_ng A.c_NoGrammar) := by
  refine T.F_NoGrammar___init__.ok sc_NoGrammar___init__ (fun vs H Q E h => ?_) (fun cdv A0 outer s H vs Q E hr h => ?_)
  · obtain ⟨_, _, rfl, _⟩ := h
    rfl
  · obtain ⟨a, v, rfl, ha, q⟩ := h
    refine ⟨_, (pss_cons (ps_expr (pe_goinit (by rfl) T.g_GoError T.cr_GoError T.vi_GoError (pa_cons (pv 0) (pa_cons pe_str pa_nil))))
 (pss_one (ps_ost (pv 0) (pv 1)))), ?_⟩
    refine ⟨_, rfl, a, A.c_NoGrammar, _, rfl, by show 1 ≤ 1000; decide, T.ox_NoGrammar, ha, ?_⟩
    exact ⟨_, rfl, _, rfl, a, A.c_NoGrammar, rfl, T.ox_NoGrammar, T.nx_NoGrammar_at, .inl ⟨ha, fun dx h1 h2 => q dx h1 h2⟩⟩
/-- what stands behind the making of an error: its dict is new, all else as it was -/
theorem exc_made {H : Hp} {a dx CE : Addr} {fs : List (Str × V)} (ha : H a = none) (hd : (upd H a (exo a CE none)) dx = none) (hne : dx ≠ a) {H2 : Hp} (e : H2 = upd (upd (upd H a (exo a CE none)) dx (exd dx fs)) a (exo a CE (some dx))) :
    H2 a = some (exo a CE (some dx)) ∧ H2 dx = some (exd dx fs) ∧ H dx = none ∧ Same H (upd (del H2 a) dx (.xd fs)) ∧ (upd (del H2 a) dx (.xd fs)) dx = some (.xd fs) := by
  have hdx : H dx = none := by rw [upd_ne hne] at hd; exact hd
  subst e
  refine ⟨upd_same, by rw [upd_ne hne, upd_same], hdx, fun b o h => ?_, upd_same⟩
  have n1 : b ≠ dx := ne_of_none h hdx
  have n2 : b ≠ a := ne_of_none h ha
  rw [upd_ne n1, del_ne n2, upd_ne n2, upd_ne n1, upd_ne n2]
  exact h
def sp_G_initX (K : PySem.W.Frag) (C CE : Addr) : Sp := fun vs H Q E => ∃ (g dx na ru : Addr) (names : List Str) (rs : List Rule), vs = [.ref g, .ref na, .ref ru] ∧ H g = some (.ins C dx []) ∧ H na = some (.lst (names.map V.str)) ∧ names.length ≤ 1000 ∧ (∀ x ∈ names, x.length ≤ 1000000) ∧
  TriosAt H ru rs ∧ rs.length ≤ 100 ∧ (∀ r ∈ rs, r.2.1.length ≤ 1000000 ∧ r.2.2.length ≤ 1000) ∧ (dueG names rs = none → areNames names = true → ∀ H', (∀ b o, H b = some o → b ≠ g → H' b = some o) → (∃ dx kn st od ls, Bld C g dx kn st od H H' names ls rs) → Q .non H') ∧
  (∀ at_ : Int, dueG names rs = some at_ → ∀ d H', (∀ b o, H b = some o → b ≠ g → H' b = some o) → H d = none → H' d = some (.xd [(("at" : Str), .int at_)]) → E (.ref CE) (some d) H')
theorem ok_Grammar___init__ (T : Txt K mg A) : FnOk P w K mg base (L2.CX P w) 4 A.a_Grammar___init__ A.d_Grammar___init__ ["self", "names", "rules"] (sp_G_initX K A.c_Grammar A.c_NoGrammar) := by
  have G_are_names : FnOk P w K mg base CX0 3 A.a_are_names A.d_are_names ["names"] (sp_are_names K) := ok_are_names T
  have G_Grammar_lets_by : FnOk P w K mg base CX0 3 A.a_Grammar_lets_by A.d_Grammar_lets_by ["self", "rule"] (sp_lets_by A.c_Grammar) := ok_Grammar_lets_by T
  have G_NoGrammar___init__ : FnOk P w K mg base CX0 1 A.a_NoGrammar___init__ A.d_NoGrammar___init__ ["self", "at"] (sp_ng A.c_NoGrammar) := ok_NoGrammar___init__ T
  refine T.F_Grammar___init__.okX sc_Grammar___init__ (fun vs H Q E h => ?_) (fun cdv A0 outer s H vs Q E hr h => ?_)
  · obtain ⟨g, _, _, _, _, _, rfl, _⟩ := h
    rfl
  · obtain ⟨g, dx, na, ru, names, rs, rfl, hg, hna, hnl9, hnl, hru, hrl, hrb, q, qE⟩ := h
    have hu := hu_of hr
    refine ⟨_, (pss_cons (ps_if (pt_not (pt_val (pe_call G_are_names (hr.mono (by decide)) (by rfl) T.g_are_names T.F_are_names.kp T.b_are_names .nil pass0 (pa_cons (pv 1) pa_nil)))) (pss_one (ps_raise rfl (takes_of rfl rfl rfl rfl) (pmk_oex T.ox_NoGrammar T.xi_NoGrammar T.xt_NoGrammar G_NoGrammar___init__ (hr.mono (by decide)) T.b_NoGrammar___init__ .nil pass0 (by rfl) T.g_NoGrammar (pa_cons (pe_un un_neg pe_int) pa_nil)))) pss_nil)
 (pss_cons (ps_fld (pv 0) (pe_callTy (T := "list") (r := Evl.rListS K) call_list_of (by rfl) T.list_ (by decide +kernel) (pa_cons (pv 1) pa_nil)) rfl)
 (pss_cons (ps_fld (pv 0) pe_dnewK rfl)
 (pss_cons (ps_fld (pv 0) (pe_lst pa_nil) rfl)
 (pss_cons (ps_for (passes_of rfl) rfl (pi_list (pv 1)) (pg_name (i := 3) sc_Grammar___init__.nd rfl (Or.inl rfl))
 (pss_one (ps_dput hu (pe_fld (pv 0) rfl) (pv 3) (pe_lst pa_nil) rfl)))
 (pss_one (ps_for (passes_of rfl) rfl (pi_enum (by rfl) T.enumerate (pa_cons (pv 2) pa_nil)) (pg_tup (by rfl) (pgs_cons (pg_name (i := 4) sc_Grammar___init__.nd rfl (Or.inl rfl)) (pgs_cons (pg_name (i := 5) sc_Grammar___init__.nd rfl (Or.inl rfl)) pgs_nil)))
 (pss_cons (ps_if (pt_not (pt_val (pe_meth (pv 0) T.cl_Grammar T.m_Grammar_lets_by G_Grammar_lets_by (hr.mono (by decide)) T.b_Grammar_lets_by .nil pass0 (pa_cons (pv 5) pa_nil)))) (pss_one (ps_raise rfl (takes_of rfl rfl rfl rfl) (pmk_oex T.ox_NoGrammar T.xi_NoGrammar T.xt_NoGrammar G_NoGrammar___init__ (hr.mono (by decide)) T.b_NoGrammar___init__ .nil pass0 (by rfl) T.g_NoGrammar (pa_cons (pv 4) pa_nil)))) pss_nil)
 (pss_cons (ps_expr (pe_bm PySem.F.plainAttrs_list PySem.F.slot_list_append PySem.F.type_list_append mt_append (pe_dget hu (pe_fld (pv 0) rfl) (pe_ix (r := rIxT K) ix_tup (pv 5) pe_int (fun _ _ => rfl)) (fun _ _ => rfl)) (pa_cons (pe_tup (pa_cons (pe_ix (r := rIxT K) ix_tup (pv 5) pe_int (fun _ _ => rfl)) (pa_cons (pe_callTy (T := "list") (r := Evl.rListS K) call_list_of (by rfl) T.list_ (by decide +kernel) (pa_cons (pe_ix (r := rIxT K) ix_tup (pv 5) pe_int (fun _ _ => rfl)) pa_nil)) pa_nil))) pa_nil)))
 (pss_one (ps_expr (pe_bm PySem.F.plainAttrs_list PySem.F.slot_list_append PySem.F.type_list_append mt_append (pe_fld (pv 0) rfl) (pa_cons (pe_ix (r := rIxT K) ix_tup (pv 5) pe_int (fun _ _ => rfl)) pa_nil))))))))))))), ?_⟩
    refine ⟨_, rfl, na, names, rfl, SqL.of hna, hnl9, hnl, fun H1 sm1 => ⟨_, rfl, ?_⟩⟩
    cases hok : areNames names with
    | false =>
      refine iteT ?_
      refine ⟨_, rfl, by show 1 ≤ 1000; decide, fun a1 ha1 => ⟨a1, _, rfl, upd_same, fun d1 hd1 hne1 => ⟨rfl, d1, [(("at" : Str), V.int (-1))], ?_⟩⟩⟩
      obtain ⟨e1, e2, e3, e4, e5⟩ := exc_made ha1 hd1 hne1 rfl
      exact ⟨e1, e2, e3, qE (-1) (dueG_names hok) d1 _ (fun b o h _ => e4 _ _ (sm1 _ _ h)) (sm1.free e3) e5⟩
    | true =>
    refine iteF ?_
    have hok' := hok
    unfold areNames at hok'
    simp only [Bool.and_eq_true, decide_eq_true_eq] at hok'
    obtain ⟨⟨⟨hn1, hn6⟩, hnd⟩, _⟩ := hok'
    -- self.known = list(names)
    refine ⟨_, rfl, na, _, rfl, .inl (SqL.of (sm1 _ _ hna)), fun kn hkn => ?_⟩
    have ngk : g ≠ kn := ne_of_none (sm1 _ _ hg) hkn
    refine ⟨_, rfl, g, A.c_Grammar, dx, [], rfl, same_new hkn _ _ (sm1 _ _ hg), T.cl_Grammar, T.n_Grammar_known, by show 0 < 1000; decide, ?_⟩
    -- self.stored = {}
    intro st hst
    have ngs : g ≠ st := fun z => by rw [z, upd_same] at hst; cases hst
    refine ⟨_, rfl, g, A.c_Grammar, dx, _, rfl, same_new hst _ _ upd_same, T.cl_Grammar, T.n_Grammar_stored, by show 1 < 1000; decide, ?_⟩
    -- self.order = []
    refine ⟨Nat.zero_le _, fun od hod => ?_⟩
    have ngo : g ≠ od := fun z => by rw [z, upd_same] at hod; cases hod
    refine ⟨_, rfl, g, A.c_Grammar, dx, _, rfl, same_new hod _ _ upd_same, T.cl_Grammar, T.n_Grammar_order, ?_, ?_⟩
    · have h1 := length_putF "stored" (V.ref st) (putF "known" (V.ref kn) ([] : List (Str × V)))
      have h2 := length_putF "known" (V.ref kn) ([] : List (Str × V))
      rw [List.length_nil] at h2
      omega
    have nks : st ≠ kn := fun z => by
      rw [z, upd_ne ngk.symm, upd_same] at hst
      cases hst
    have nos : od ≠ st := fun z => by
      rw [z, upd_ne ngs.symm, upd_same] at hod
      cases hod
    have nok : od ≠ kn := fun z => by
      rw [z, upd_ne ngk.symm, upd_ne nks.symm, upd_ne ngk.symm, upd_same] at hod
      cases hod
    generalize hH4 : upd (upd (upd (upd (upd (upd H1 kn (.lst (names.map V.str))) g (.ins A.c_Grammar dx (putF "known" (.ref kn) []))) st (.dK [])) g (.ins A.c_Grammar dx (putF "stored" (.ref st) (putF "known" (.ref kn) [])))) od (.lst [])) g (.ins A.c_Grammar dx (putF "order" (.ref od) (putF "stored" (.ref st) (putF "known" (.ref kn) [])))) = H4
    have g4 : H4 g = some (.ins A.c_Grammar dx (gfs kn st od)) := by rw [← hH4]; exact upd_same
    have k4 : H4 kn = some (.lst (names.map V.str)) := by rw [← hH4, upd_ne ngk.symm, upd_ne nok.symm, upd_ne ngk.symm, upd_ne nks.symm, upd_ne ngk.symm, upd_same]
    have s4 : H4 st = some (.dK []) := by rw [← hH4, upd_ne ngs.symm, upd_ne nos.symm, upd_ne ngs.symm, upd_same]
    have o4 : H4 od = some (.lst []) := by rw [← hH4, upd_ne ngo.symm, upd_same]
    have fk : H kn = none := sm1.free hkn
    have fs : H st = none := by
      rw [upd_ne ngs.symm, upd_ne nks] at hst
      exact sm1.free hst
    have fk : H kn = none := sm1.free hkn
    have fs : H st = none := by
      cases e : H st with
      | none => rfl
      | some o =>
        have e1 := sm1 _ _ e
        rw [upd_ne ngs.symm, upd_ne nks, e1] at hst
        cases hst
    have fo : H od = none := by
      rw [upd_ne ngo.symm, upd_ne nos, upd_ne ngo.symm, upd_ne nok] at hod
      exact sm1.free hod
    have base4 : ∀ b o, H b = some o → b ≠ g → H4 b = some o := fun b o h n => by
      rw [← hH4, upd_ne n, upd_ne (ne_of_none h fo), upd_ne n, upd_ne (ne_of_none h fs), upd_ne n, upd_ne (ne_of_none h fk)]
      exact sm1 _ _ h
    clear hH4 hst hod hkn
    have nna : na ≠ g := ne_of hna hg (by intro z; cases z)
    -- for name in names: self.stored[name] = []
    refine ⟨_, rfl, na, rfl, ⟨_, SqL.of (base4 _ _ hna nna)⟩, for_list (K := K) (a := na) (xs := names.map V.str) (fun i σ' H' => ∃ (x3 : Option V) (ls : List Addr), σ' = [some (.ref g), some (.ref na), some (.ref ru), x3, none, none] ∧
        (∀ b o, H b = some o → b ≠ g → H' b = some o) ∧ H' g = some (.ins A.c_Grammar dx (gfs kn st od)) ∧ H' kn = some (.lst (names.map V.str)) ∧ H' st = some (.dK (zipK (names.take i) ls)) ∧ H' od = some (.lst []) ∧ ls.Nodup ∧ (∀ l ∈ ls, H l = none) ∧ kn ∉ ls ∧ od ∉ ls ∧ ls.length = i ∧ ∀ l ∈ ls, H' l = some (.lst [])) ?_ ?_ ?_ ?_⟩
    · exact ⟨none, [], rfl, base4, g4, k4, s4, o4, by simp, by simp, by simp, by simp, rfl, by simp⟩
    · rintro i σ' H' _ ⟨_, _, rfl, b5, _⟩
      exact SqL.of (b5 _ _ hna nna)
    · rintro i x σ' H5 hi ⟨x3, ls, rfl, b5, g5, k5, s5, o5, nd5, fr5, nk5, no5, hl5, em5⟩
      obtain ⟨n, hn, rfl⟩ := map_at hi
      have hil := (List.getElem?_eq_some_iff.mp hn).1
      refine ⟨Nat.zero_le _, fun l hl => ?_⟩
      have sml := same_new hl (o := .lst [])
      have hst6 := sml _ _ s5
      have hnl6 : l ∉ ls := fun z => by rw [em5 l z] at hl; cases hl
      refine ⟨_, rfl, g, _, _, _, _, rfl, sml _ _ g5, T.cl_Grammar, T.n_Grammar_stored, gfs_stored _ _ _, _, rfl, st, _, rfl, DPut.k (k := Sum.inr n) hst6 ?_, ?_⟩
      · have : (zipK (names.take i) ls).length ≤ 6 := by
          unfold zipK
          rw [List.length_zipWith, List.length_take]
          omega
        exact sl1 (by omega)
      have hnn : n ∉ names.take i := fun z => by
        obtain ⟨j, hj⟩ := List.mem_iff_getElem?.mp z
        rw [List.getElem?_take] at hj
        by_cases hji : j < i
        · rw [if_pos hji] at hj
          have := nd_ix hnd hj hn
          omega
        · rw [if_neg hji] at hj
          cases hj
      have kp : ∀ (x : Addr) (o : HO), H5 x = some o → o ≠ .dK (zipK (names.take i) ls) → (upd (upd H5 l (.lst [])) st (.dK (putK (zipK (names.take i) ls) (Sum.inr n) (.ref l)))) x = some o := fun x o h n => by
        rw [upd_ne (ne_of h s5 n)]
        exact sml _ _ h
      have nls : l ≠ st := ne_of upd_same hst6 (by intro z; cases z)
      refine ⟨_, ls ++ [l], rfl, fun b o h n2 => ?_, kp _ _ g5 (by intro z; cases z), kp _ _ k5 (by intro z; cases z), ?_, kp _ _ o5 (by intro z; cases z), ?_, ?_, ?_, ?_, by simp [hl5], ?_⟩
      · rw [upd_ne (ne_of_none h fs)]
        exact sml _ _ (b5 b o h n2)
      · rw [upd_same, putK_fresh (by rw [List.length_take]; omega) hnn, take_snoc hn]
      · rw [List.nodup_append]
        refine ⟨nd5, by simp, fun x hx y hy z => hnl6 ?_⟩
        rw [List.mem_singleton.mp hy] at z
        exact z ▸ hx
      · intro y hy
        rcases List.mem_append.mp hy with hy | hy
        · exact fr5 y hy
        · rw [List.mem_singleton.mp hy]
          cases e : H l with
          | none => rfl
          | some o =>
            by_cases hlg : l = g
            · rw [hlg, g5] at hl; cases hl
            · rw [b5 l o e hlg] at hl; cases hl
      · rw [List.mem_append, not_or]
        exact ⟨nk5, fun z => by rw [List.mem_singleton.mp z] at k5; rw [k5] at hl; cases hl⟩
      · rw [List.mem_append, not_or]
        exact ⟨no5, fun z => by rw [List.mem_singleton.mp z] at o5; rw [o5] at hl; cases hl⟩
      · intro y hy
        rcases List.mem_append.mp hy with hy | hy
        · exact kp _ _ (em5 y hy) (by intro z; cases z)
        · rw [List.mem_singleton.mp hy, upd_ne nls, upd_same]
    rintro σ' H5 ⟨x3, ls, rfl, b5, g5, k5, s5, o5, nd5, fr5, nk5, no5, hl5, em5⟩
    rw [List.length_map, List.take_length] at s5
    rw [List.length_map] at hl5
    have bld : Bld A.c_Grammar g dx kn st od H H5 names ls [] := by
      refine ⟨b5, g5, k5, s5, o5, nd5, fr5, fo, fk, fs, ?_, no5, ?_⟩
      · rw [List.mem_cons, not_or]
        exact ⟨nok.symm, nk5⟩
      · refine paired_all (by omega) fun i n l h1 h2 => ⟨[], em5 l (List.mem_of_getElem? h2), ?_⟩
        exact .nil
    clear b5 g5 k5 s5 o5 nd5 fr5 nk5 no5 em5
    -- for at, rule in enumerate(rules)
    obtain ⟨ts, hts, htr⟩ := hru
    have ntu : ru ≠ g := ne_of hts hg (by intro z; cases z)
    have htl : ts.length = rs.length := paired_len htr
    refine ⟨_, rfl, ru, _, rfl, SqL.of (bld.base _ _ hts ntu), for_it (walk_enum (a := ru) (xs := ts.map V.ref)) (fun i σ' H' => ∃ x3 x4 x5 : Option V, σ' = [some (.ref g), some (.ref na), some (.ref ru), x3, x4, x5] ∧ Bld A.c_Grammar g dx kn st od H H' names ls (rs.take i) ∧ ∀ k r, k < i → rs[k]? = some r → letsBy names (rs.take k) r = true) ?_ ?_ ?_ ?_⟩
    · exact ⟨_, _, _, rfl, bld, fun k r hk => absurd hk (Nat.not_lt_zero k)⟩
    · rintro i σ' H' _ ⟨_, _, _, rfl, b, _⟩
      exact SqL.of (b.base _ _ hts ntu)
    · rintro i x σ' H6 H7 hi ⟨x3, x4, x5, rfl, b, hso⟩ ⟨T0, y1, y2, rfl, hT, rfl, e1, e2⟩
      have e1 := Option.some.inj e1
      subst e1
      obtain ⟨t, hti, rfl⟩ := map_at e2
      obtain ⟨r, hr1, w0, hw1, hw2⟩ := paired_get htr hti
      have b7 : Bld A.c_Grammar g dx kn st od H (upd H6 T0 (.tup [.int i, .ref t])) names ls (rs.take i) := b.same (same_new hT)
      refine ⟨T0, _, rfl, SqT.of upd_same, rfl, _, _, rfl, _, _, rfl, rfl, ?_⟩
      have ht7 : (upd H6 T0 (.tup [.int i, .ref t])) t = some (.tup [.str r.1, .str r.2.1, .ref w0]) := b7.base _ _ hw1 (ne_of hw1 hg (by intro z; cases z))
      have hw7 : (upd H6 T0 (.tup [.int i, .ref t])) w0 = some (.lst (r.2.2.map V.str)) := b7.base _ _ hw2 (ne_of hw2 hg (by intro z; cases z))
      generalize (upd H6 T0 (.tup [.int i, .ref t])) = H8 at b7 ht7 hw7 ⊢
      have hrm := List.mem_of_getElem? hr1
      have hrt : (rulesOf (rs.take i) r.1).length ≤ 1000 := by
        have h1 := rulesOf_len (rs.take i) r.1
        rw [List.length_take] at h1
        omega
      refine ⟨_, rfl, g, _, _, rfl, b7.ins, gfs_no _ _ _ (by decide +kernel) (by decide +kernel) (by decide +kernel), _, rfl, g, t, dx, kn, st, od, ls, names, rs.take i, r, rfl, b7.ins, b7.stored, ⟨w0, ht7, hw7⟩, (hrb r hrm).1, (hrb r hrm).2, hrt, fun H9 sm9 => ⟨_, rfl, ?_⟩⟩
      have b9 := b7.same sm9
      cases hlets : letsBy names (rs.take i) r with
      | false =>
        refine iteT ?_
        refine ⟨_, rfl, by show 1 ≤ 1000; decide, fun a1 ha1 => ⟨a1, _, rfl, upd_same, fun d1 hd1 hne1 => ⟨rfl, d1, [(("at" : Str), V.int (i : Int))], ?_⟩⟩⟩
        obtain ⟨e1, e2, e3, e4, e5⟩ := exc_made ha1 hd1 hne1 rfl
        exact ⟨e1, e2, e3, qE i (dueG_at hok hso hr1 hlets) d1 _ (fun b o h n => e4 _ _ (b9.base b o h n)) (b9.fresh e3) e5⟩
      | true =>
      refine iteF ?_
      have hin : r.1 ∈ names := by
        unfold letsBy at hlets
        simp only [Bool.and_eq_true, decide_eq_true_eq] at hlets
        exact hlets.1.1.1.1.1
      rcases b9.stored.look r.1 with ⟨_, f⟩ | ⟨j, l, hj, hl, el, _, us, hus, hup⟩
      · exact absurd hin f
      have ht9 := sm9 _ _ ht7
      have hw9 := sm9 _ _ hw7
      -- self.stored[rule[0]].append((rule[1], list(rule[2])))
      refine ⟨_, rfl, g, _, _, _, _, rfl, b9.ins, T.cl_Grammar, T.n_Grammar_stored, gfs_stored _ _ _, _, rfl, t, _, _, _, rfl, rfl, SqT.of ht9, atI_nat (j := 0) rfl, st, _, rfl, .inl ⟨_, Sum.inr r.1, .inl b9.sd, rfl, el.symm⟩, .inl ⟨rfl, _, SqL.of hus⟩, ?_⟩
      refine ⟨_, rfl, t, _, _, _, rfl, rfl, SqT.of ht9, atI_nat (j := 1) rfl, _, rfl, t, _, _, _, rfl, rfl, SqT.of ht9, atI_nat (j := 2) rfl, w0, _, rfl, .inl (SqL.of hw9), fun w hw => ⟨sl2 (by show 2 ≤ 1000000; decide), fun u hu3 => ?_⟩⟩
      have sm2 := (same_new hw (o := .lst (r.2.2.map V.str))).trans (same_new hu3 (o := .tup [.str r.2.1, .ref w]))
      have b10 := b9.same sm2
      have hwU : (upd (upd H9 w (.lst (r.2.2.map V.str))) u (.tup [.str r.2.1, .ref w])) w = some (.lst (r.2.2.map V.str)) := by rw [upd_ne (ne_of_none upd_same hu3), upd_same]
      have huU : (upd (upd H9 w (.lst (r.2.2.map V.str))) u (.tup [.str r.2.1, .ref w])) u = some (.tup [.str r.2.1, .ref w]) := upd_same
      have hus10 := sm2 _ _ hus
      have hw0' : H9 w = none := hw
      have hu0 : H9 u = none := (same_new hw).free hu3
      have ht10 := sm2 _ _ ht9
      have hwb : w ∉ od :: ls := fun z => by
        rcases List.mem_cons.mp z with z | z
        · rw [z, b9.hod] at hw; cases hw
        · obtain ⟨j', hj'⟩ := List.mem_iff_getElem?.mp z
          have hn' : ∃ n', names[j']? = some n' := ⟨_, List.getElem?_eq_getElem (by rw [paired_len b9.prs]; exact (List.getElem?_eq_some_iff.mp hj').1)⟩
          obtain ⟨n', hn'⟩ := hn'
          obtain ⟨_, g1, _⟩ := paired_ix b9.prs hn' hj'
          rw [g1] at hw; cases hw
      generalize (upd (upd H9 w (.lst (r.2.2.map V.str))) u (.tup [.str r.2.1, .ref w])) = H10 at b10 hwU huU hus10 ht10 sm2 ⊢
      have hul : us.length = (rulesOf (rs.take i) r.1).length := paired_len hup
      refine ⟨l, _, _, rfl, rfl, hus10, by rw [List.length_map, hul]; exact sl1 (by omega), ?_⟩
      -- self.order.append(rule[0])
      have nlo : l ≠ od := fun z => b10.odl (z ▸ List.mem_of_getElem? hl)
      have ho10 : (upd H10 l (.lst (us.map V.ref ++ [.ref u]))) od = some (.lst (((rs.take i).map (·.1)).map V.str)) := by rw [upd_ne nlo.symm]; exact b10.hod
      have hg10 : (upd H10 l (.lst (us.map V.ref ++ [.ref u]))) g = some (.ins A.c_Grammar dx (gfs kn st od)) := by rw [upd_ne (ne_of b10.ins hus10 (by intro z; cases z))]; exact b10.ins
      have ht11 : (upd H10 l (.lst (us.map V.ref ++ [.ref u]))) t = some (.tup [.str r.1, .str r.2.1, .ref w0]) := by rw [upd_ne (ne_of ht10 hus10 (by intro z; cases z))]; exact ht10
      refine ⟨_, rfl, g, _, _, _, _, rfl, hg10, T.cl_Grammar, T.n_Grammar_order, gfs_order _ _ _, .inl ⟨rfl, _, SqL.of ho10⟩, _, rfl, t, _, _, _, rfl, rfl, SqT.of ht11, atI_nat (j := 0) rfl, od, _, _, rfl, rfl, ho10, by rw [List.length_map, List.length_map, List.length_take]; exact sl1 (by omega), ?_⟩
      refine ⟨_, _, _, rfl, ?_, fun k r' hk hr' => ?_⟩
      · rw [take_snoc hr1]
        exact b10.put hnd hj hl hus10 (b9.fresh hu0) (b9.fresh hw0') huU hwU hwb rfl
      rcases Nat.lt_or_ge k i with c | c
      · exact hso k r' c hr'
      · have e : k = i := by omega
        subst e
        rw [hr1] at hr'
        rw [← Option.some.inj hr']
        exact hlets
    · rintro σ' H6 ⟨x3, x4, x5, rfl, b, hso⟩
      rw [List.length_map, htl, List.take_length] at b
      rw [List.length_map, htl] at hso
      exact q (dueG_none hok fun k r hr' => hso k r (List.getElem?_eq_some_iff.mp hr').1 hr') hok H6 b.base ⟨dx, kn, st, od, ls, b⟩
end
end SG
namespace SG
open PySem PySem.Spec PyProof.Rows L2
section
variable {P : Program} {w : World} {K : PySem.W.Frag} {mg : Str → Option Value} {base : Heap} {A : Ad}
theorem ok__law_digits (T : Txt K mg A) : FnOk P w K mg base CX0 1 A.a__law_digits A.d__law_digits ["_law_cell_here", "_law_many"] sp_digits := by
  refine T.F__law_digits.ok sc__law_digits (fun vs H Q E h => ?_) (fun cdv A0 outer s H vs Q E hr h => ?_)
  · obtain ⟨c, n, rfl, _⟩ := h
    rfl
  · obtain ⟨c, n, rfl, hn0, hn1, q⟩ := h
    refine ⟨_, (pss_cons (ps_set (i := 2) sc__law_digits.nd rfl (Or.inl rfl) (pe_lst pa_nil))
 (pss_cons (ps_set (i := 3) sc__law_digits.nd rfl (Or.inl rfl) pe_int)
 (Evl.pss_cut (ps_if (pt_cmpR op_ge (pv 0) (pe_op op_pow pe_int pe_int) (nomark _)) (pss_one (ps_set (i := 3) sc__law_digits.nd rfl (Or.inl rfl) (pv 0))) pss_nil)
 (pss_cons (ps_set (i := 4) sc__law_digits.nd rfl (Or.inl rfl) (pe_op op_mod (pv 0) pe_int))
 (pss_cons (ps_for PassesOwn.never rfl (pi_range1 (by rfl) T.range (pa_cons (pv 1) pa_nil)) (pg_name (i := 5) sc__law_digits.nd rfl (Or.inl rfl))
 (pss_cons (ps_set (i := 4) sc__law_digits.nd rfl (Or.inl rfl) (pe_op op_mod (pe_op op_add (pe_op op_add (pe_op op_mul (pv 4) pe_int) (pe_op op_mul pe_int (pv 5))) pe_int) pe_int))
 (pss_cons (ps_set (i := 4) sc__law_digits.nd rfl (Or.inl rfl) (pe_op op_mod (pe_op op_mul (pv 4) (pe_op op_add (pe_op op_fdiv (pv 4) pe_int) pe_int)) pe_int))
 (pss_one (ps_if (pt_cmpR op_gt (pv 3) pe_int (nomark _)) (pss_cons (ps_expr (pe_bm PySem.F.plainAttrs_list PySem.F.slot_list_append PySem.F.type_list_append mt_append (pv 2) (pa_cons (pe_op op_mod (pv 3) pe_int) pa_nil)))
 (pss_one (ps_set (i := 3) sc__law_digits.nd rfl (Or.inl rfl) (pe_op op_fdiv (pv 3) pe_int)))) (pss_one (ps_expr (pe_bm PySem.F.plainAttrs_list PySem.F.slot_list_append PySem.F.type_list_append mt_append (pv 2) (pa_cons (pe_op op_mod (pe_op op_fdiv (pv 4) pe_int) pe_int) pa_nil)))))))))
 (pss_one (ps_ret (pv 2)))))))), ?_⟩
    refine ⟨Nat.zero_le _, fun p hp => ?_⟩
    -- the if
    refine ⟨fun σ' H' => ∃ r : Int, σ' = [some (.int c), some (.int n), some (.ref p), some (.int r), none, none] ∧ H' = upd H p (.lst []), ?_, ?_⟩
    · refine ⟨_, rfl, _, _, rfl, rfl, ⟨by decide, by decide, by decide⟩, _, _, rfl, rfl, _, rfl, ite2 (fun _ => ?_) (fun _ => ?_)⟩
      · exact ⟨_, rfl, c, rfl, rfl⟩
      · exact ⟨0, rfl, rfl⟩
    rintro σ' H' ⟨r, rfl, rfl⟩
    refine ⟨_, rfl, _, _, rfl, rfl, lt0, ?_⟩
    refine ⟨_, rfl, n, rfl, by omega, by omega, for_range (fun i σ' H' => ∃ (r z : Int) (x5 : Option V) (ns : List Int), σ' = [some (.int c), some (.int n), some (.ref p), some (.int r), some (.int z), x5] ∧ 0 ≤ z ∧ z < 2147483648 ∧ Same H H' ∧ H' p = some (.lst (ns.map V.int)) ∧ ns.length = i ∧ Digs ns) ?_ ?_ ?_⟩
    · exact ⟨r, _, none, [], rfl, by omega, by omega, same_new hp, upd_same, rfl, fun x hx => by simp at hx⟩
    · rintro i σ' H' hi ⟨r, z, x5, ns, rfl, z0, z1, sm, hl, rfl, dg⟩
      refine ⟨_, rfl, _, _, rfl, rfl, .inl ⟨by omega, by omega⟩, _, rfl, _, _, rfl, rfl, .inl ⟨by decide, by decide⟩, _, _, rfl, rfl, _, _, rfl, rfl, _, _, rfl, rfl, lt0, ?_⟩
      refine ⟨_, rfl, _, rfl, _, _, rfl, rfl, ⟨by decide, by decide⟩, _, _, rfl, rfl, _, _, rfl, rfl, .inl ⟨by omega, by omega⟩, _, _, rfl, rfl, lt0, ?_⟩
      have hlen : (ns.map V.int).length < sizeLine := by rw [List.length_map]; exact sl1 (by omega)
      refine ⟨_, rfl, _, _, rfl, rfl, _, rfl, ite2 (fun _ => ?_) (fun _ => ?_)⟩
      · refine ⟨_, rfl, .inl ⟨rfl, _, SqL.of hl⟩, _, rfl, _, _, rfl, rfl, lt0, _, _, _, rfl, rfl, hl, hlen, ?_⟩
        refine ⟨_, rfl, _, _, rfl, rfl, ⟨by decide, by decide⟩, ?_⟩
        exact ⟨_, _, _, ns ++ [r % 1009], rfl, by omega, by omega, same_mut sm hp, by rw [upd_same, List.map_append]; rfl, by simp, dg.snoc (by omega) (by omega)⟩
      · refine ⟨_, rfl, .inl ⟨rfl, _, SqL.of hl⟩, _, rfl, _, _, rfl, rfl, ⟨by decide, by decide⟩, _, _, rfl, rfl, lt0, _, _, _, rfl, rfl, hl, hlen, ?_⟩
        exact ⟨_, _, _, ns ++ [_ / 7 % 1009], rfl, by omega, by omega, same_mut sm hp, by rw [upd_same, List.map_append]; rfl, by simp, dg.snoc (by omega) (by omega)⟩
    · rintro σ' H' ⟨r, z, x5, ns, rfl, z0, z1, sm, hl, hlen, dg⟩
      exact ⟨_, rfl, q p H' ns sm hp hl (by omega) dg⟩

theorem ok__law_next_of (T : Txt K mg A) : FnOk P w K mg base CX0 1 A.a__law_next_of A.d__law_next_of ["_law_state"] sp_next := by
  refine T.F__law_next_of.ok sc__law_next_of (fun vs H Q E h => ?_) (fun cdv A0 outer s H vs Q E hr h => ?_)
  · obtain ⟨c, n, rfl, _⟩ := h
    rfl
  · obtain ⟨s, d, rfl, ⟨nd, ⟨k, hs⟩, ns, hd, n0, n1, dg⟩, q⟩ := h
    refine ⟨_, (pss_cons (ps_asg (pe_op op_add (pe_ix ix_list (pv 0) pe_int (fun _ _ => rfl)) pe_int) (pg_sub (pv 0) pe_int set_list))
 (pss_one (ps_ret (pe_ix ix_list (pe_ix ix_list (pv 0) pe_int (fun _ _ => rfl)) (pe_op op_mod (pe_ix ix_list (pv 0) pe_int (fun _ _ => rfl)) (pe_callB call_len_seq (by rfl) T.len (by decide +kernel) (pa_cons (pe_ix ix_list (pv 0) pe_int (fun _ _ => rfl)) pa_nil))) (fun _ _ => rfl))))), ?_⟩
    have hpos : 0 < (ns.map V.int).length := by rw [List.length_map]; exact List.length_pos_iff.mpr n0
    refine ⟨_, rfl, _, _, _, _, rfl, rfl, SqL.of hs, atI_nat (j := 1) rfl, _, _, rfl, rfl, ?_⟩
    refine ⟨_, rfl, _, _, _, 1, rfl, rfl, hs, rfl, ?_⟩
    have hs' : upd H s (.lst ([V.ref d, V.int k].set 1 (V.int (k + 1)))) s = some (.lst [V.ref d, V.int (k + 1)]) := upd_same
    have hd' : upd H s (.lst ([V.ref d, V.int k].set 1 (V.int (k + 1)))) d = some (.lst (ns.map V.int)) := by rw [upd_ne nd]; exact hd
    have i0 : 0 ≤ (k + 1) % ((ns.map V.int).length : Int) := Int.emod_nonneg _ (by omega)
    have i1 : (k + 1) % ((ns.map V.int).length : Int) < (ns.map V.int).length := Int.emod_lt_of_pos _ (by omega)
    obtain ⟨v, hv, hm⟩ := atI_some i0 i1
    obtain ⟨z, hz, rfl⟩ := List.mem_map.mp hm
    refine ⟨_, rfl, _, _, _, _, rfl, rfl, SqL.of hs', atI_nat (j := 0) rfl, _, rfl, _, _, _, _, rfl, rfl, SqL.of hs', atI_nat (j := 1) rfl, _, rfl, _, _, _, _, rfl, rfl, SqL.of hs', atI_nat (j := 0) rfl, _, _, rfl, .inl (SqL.of hd'), _, _, rfl, rfl, (by show (0 : Int) < _; omega), _, _, _, _, rfl, rfl, SqL.of hd', hv, ?_⟩
    exact q z _ (dg z hz).1 (dg z hz).2 ((But.refl s H).own _) ⟨nd, ⟨_, hs'⟩, ns, hd', n0, n1, dg⟩
end
section
variable {P : Program} {w : World} {K : PySem.W.Frag} {mg : Str → Option Value} {base : Heap} {A : Ad}
theorem ok__law_called (T : Txt K mg A) : FnOk P w K mg base CX0 2 A.a__law_called A.d__law_called ["_law_state", "_law_many"] sp_called := by
  have G__law_next_of : FnOk P w K mg base CX0 1 A.a__law_next_of A.d__law_next_of ["_law_state"] sp_next := ok__law_next_of T
  refine T.F__law_called.ok sc__law_called (fun vs H Q E h => ?_) (fun cdv A0 outer s H vs Q E hr h => ?_)
  · obtain ⟨s, d, n, rfl, _⟩ := h
    rfl
  · obtain ⟨s, d, n, rfl, n6, hs, q⟩ := h
    refine ⟨_, (pss_cons (ps_set (i := 2) sc__law_called.nd rfl (Or.inl rfl) (pe_lst pa_nil))
 (pss_cons (ps_for PassesOwn.never rfl (pi_range1 (by rfl) T.range (pa_cons (pv 1) pa_nil)) (pg_name (i := 3) sc__law_called.nd rfl (Or.inl rfl))
 (pss_cons (ps_set (i := 4) sc__law_called.nd rfl (Or.inl rfl) pe_str)
 (pss_cons (ps_for PassesOwn.never rfl (pi_range1 (by rfl) T.range (pa_cons (pe_op op_mod (pe_call G__law_next_of (hr.mono (by decide)) (by rfl) T.g__law_next_of T.F__law_next_of.kp T.b__law_next_of .nil pass0 (pa_cons (pv 0) pa_nil)) pe_int) pa_nil)) (pg_name (i := 5) sc__law_called.nd rfl (Or.inl rfl))
 (pss_one (ps_set (i := 4) sc__law_called.nd rfl (Or.inl rfl) (pe_op op_add_str (pv 4) (pe_ix (r := rIxS) ix_str pe_str (pe_op op_mod (pe_call G__law_next_of (hr.mono (by decide)) (by rfl) T.g__law_next_of T.F__law_next_of.kp T.b__law_next_of .nil pass0 (pa_cons (pv 0) pa_nil)) pe_int) (fun _ _ => rfl))))))
 (Evl.pss_cut (ps_if (pt_cmpR op_eq (pe_op op_mod (pe_call G__law_next_of (hr.mono (by decide)) (by rfl) T.g__law_next_of T.F__law_next_of.kp T.b__law_next_of .nil pass0 (pa_cons (pv 0) pa_nil)) pe_int) pe_int (nomark _)) (pss_one (ps_set (i := 4) sc__law_called.nd rfl (Or.inl rfl) pe_str)) pss_nil)
 (pss_one (ps_expr (pe_bm PySem.F.plainAttrs_list PySem.F.slot_list_append PySem.F.type_list_append mt_append (pv 2) (pa_cons (pe_op op_add_str (pv 4) (pe_ix (r := rIxS) ix_str pe_str (pv 3) (fun _ _ => rfl))) pa_nil))))))))
 (pss_one (ps_ret (pv 2))))), ?_⟩
    refine ⟨Nat.zero_le _, fun p hp => ?_⟩
    refine ⟨_, rfl, (n : Int), rfl, by omega, by omega, for_range (fun i σ' H' => ∃ (x3 x4 x5 : Option V) (xs : List Str), σ' = [some (.ref s), some (.int n), some (.ref p), x3, x4, x5] ∧ But s H H' ∧ StAt H' s d ∧ H' p = some (.lst (xs.map V.str)) ∧ Called i xs) ?_ ?_ ?_⟩
    · exact ⟨none, none, none, [], rfl, but_of_same (same_new hp), hs.cell hs hp, upd_same, rfl, fun i x h => by simp at h⟩
    · rintro i σ' H1 hi ⟨x3, x4, x5, xs, rfl, bt, st, hl, hx, hc⟩
      refine ⟨_, rfl, s, d, rfl, st, fun j H2 j0 j1 bt2 st2 => ?_⟩
      refine ⟨_, _, rfl, rfl, lt0, _, rfl, by omega, by omega, for_range (fun k σ' H' => ∃ (x5 : Option V) (l : List Nat), σ' = [some (.ref s), some (.int n), some (.ref p), some (.int (0 + (i : Int))), some (.str ⟨l.toArray⟩), x5] ∧ But s H1 H' ∧ StAt H' s d ∧ l.length = k ∧ Smalls l) ?_ ?_ ?_⟩
      · exact ⟨_, [], rfl, bt2, st2, rfl, fun c h => by simp at h⟩
      · rintro k σ' H3 hk ⟨y5, l, rfl, bt3, st3, hlk, sm⟩
        refine ⟨_, rfl, _, rfl, s, d, rfl, st3, fun m H4 m0 m1 bt4 st4 => ?_⟩
        refine ⟨_, _, rfl, rfl, lt0, _, _, _, rfl, rfl, by decide +kernel, letter_at (by omega) (by omega), _, _, rfl, rfl, ?_, ?_⟩
        · show l.toArray.size + 1 ≤ sizeLine
          rw [List.size_toArray, sizeLine_eq]; omega
        · refine ⟨some (.int (0 + (k : Int))), l ++ [97 + (m % 26).toNat], by rw [← app_sign]; rfl, bt3.trans bt4, st4, by simp [hlk], ?_⟩
          · intro c hc
            rcases List.mem_append.mp hc with hc | hc
            · exact sm c hc
            · rw [List.mem_singleton.mp hc]; omega
      · rintro σ' H3 ⟨y5, l, rfl, bt3, st3, hlk, sm⟩
        refine ⟨fun σ' H' => ∃ l : List Nat, σ' = [some (.ref s), some (.int n), some (.ref p), some (.int (0 + (i : Int))), some (.str ⟨l.toArray⟩), y5] ∧ But s H1 H' ∧ StAt H' s d ∧ l.length ≤ 7 ∧ Smalls l, ?_, ?_⟩
        · refine ⟨_, rfl, s, d, rfl, st3, fun m H4 m0 m1 bt4 st4 => ?_⟩
          refine ⟨_, _, rfl, rfl, lt0, rfl, _, rfl, ite2 (fun _ => ?_) (fun _ => ?_)⟩
          · exact ⟨[110, 97, 109, 101, 115], rfl, bt3.trans bt4, st4, by decide, by unfold Smalls; decide⟩
          · exact ⟨l, rfl, bt3.trans bt4, st4, by omega, sm⟩
        rintro σ' H4 ⟨l, rfl, bt3, st3, hlk, sm⟩
        have hl3 : H4 p = some (.lst (xs.map V.str)) := bt3 p _ (fun e => by rw [e] at hp; obtain ⟨o, ho⟩ := hs.s_some; rw [ho] at hp; cases hp) hl
        refine ⟨_, rfl, .inl ⟨rfl, _, SqL.of hl3⟩, _, rfl, _, rfl, _, _, _, rfl, rfl, by decide +kernel, letter6_at (by omega) (by omega), _, _, rfl, rfl, ?_, _, _, _, rfl, rfl, hl3, ?_, ?_⟩
        · show l.toArray.size + 1 ≤ sizeLine
          rw [List.size_toArray, sizeLine_eq]; omega
        · rw [List.length_map]; exact sl1 (by omega)
        · refine ⟨_, _, _, xs ++ [_], rfl, (bt.trans bt3).cell hp _, st3.cell hs hp, by rw [upd_same, List.map_append]; rfl, by simp [hx], fun m x hm => ?_⟩
          rw [List.getElem?_append] at hm
          by_cases h : m < xs.length
          · rw [if_pos h] at hm
            exact hc m x hm
          · rw [if_neg h] at hm
            have hm0 : m - xs.length = 0 := by
              have := (List.getElem?_eq_some_iff.mp hm).1
              simp at this
              omega
            rw [hm0] at hm
            have e : _ = x := Option.some.inj hm
            have em : m = i := by omega
            subst em
            refine ⟨l, ?_, by omega, sm⟩
            rw [← e, ← app_sign, show (0 + (m : Int)).toNat = m by omega]
    · rintro σ' H1 ⟨x3, x4, x5, xs, rfl, bt, st, hl, hc⟩
      exact ⟨_, rfl, q p H1 xs hp bt st hl hc⟩
end
section
variable {P : Program} {w : World} {K : PySem.W.Frag} {mg : Str → Option Value} {base : Heap} {A : Ad}
theorem ok__law_drawn (T : Txt K mg A) : FnOk P w K mg base CX0 2 A.a__law_drawn A.d__law_drawn ["_law_state", "_law_names", "_law_most"] sp_drawn := by
  have G__law_next_of : FnOk P w K mg base CX0 1 A.a__law_next_of A.d__law_next_of ["_law_state"] sp_next := ok__law_next_of T
  refine T.F__law_drawn.ok sc__law_drawn (fun vs H Q E h => ?_) (fun cdv A0 outer s H vs Q E hr h => ?_)
  · obtain ⟨s, d, a, xs, m, rfl, _⟩ := h
    rfl
  · obtain ⟨s, d, a, xs, m, rfl, hm, hxl, hs, ha, q⟩ := h
    have hu64 := hu64_of hr
    refine ⟨_, (pss_one (ps_ret (pe_lc (own := [("_law_k", 3)]) (g := gName 3) (by rfl) sc__law_drawn.nd (pi_range1 (by rfl) T.range (pa_cons (pe_op op_mod (pe_call G__law_next_of (hr.mono (by decide)) (by rfl) T.g__law_next_of T.F__law_next_of.kp T.b__law_next_of .nil pass0 (pa_cons (pv 0) pa_nil)) (pe_op op_add (pv 2) pe_int)) pa_nil)) (blkOk_by (own := [("_law_k", 3)]) (N := ["_law_state", "_law_names", "_law_most", "_law_k"]) (sc := defScope s__law_drawn) (by decide +kernel)) (fun _ _ _ _ _ => (pg_name (i := 3) sc__law_drawn.nd rfl (Or.inl rfl))) (fun _ _ _ _ _ => pts_one (pt_cmpR (r := rNeP K) (op_neP hu64) (pv 1) (pe_lst pa_nil) (nomark _))) (fun _ _ _ _ _ => (pe_ix (r := rIxL K) ix_list (pv 1) (pe_op op_mod (pe_call G__law_next_of (hr.mono (by decide)) (by rfl) T.g__law_next_of T.F__law_next_of.kp T.b__law_next_of .nil pass0 (pa_cons (pv 0) pa_nil)) (pe_callB (id := "len") (r := Evl.rLenS K) call_len_seq (by rfl) T.len (by decide +kernel) (pa_cons (pv 1) pa_nil))) (fun _ _ => rfl)))))), ?_⟩
    refine ⟨_, rfl, s, d, rfl, hs, fun j H1 j0 j1 bt st => ?_⟩
    have hm0 : 0 < (m : Int) + 1 := by omega
    have r1 : j % ((m : Int) + 1) < (m : Int) + 1 := Int.emod_lt_of_pos _ hm0
    have r0 : 0 ≤ j % ((m : Int) + 1) := Int.emod_nonneg _ (by omega)
    refine ⟨_, rfl, _, _, rfl, rfl, _, _, rfl, rfl, hm0, _, rfl, by omega, by omega, fun D hD => lc_range (fun i H' => ∃ row : List Str, But s H H' ∧ StAt H' s d ∧ H' D = some (.lst (row.map V.str)) ∧ row.length ≤ i ∧ ∀ x ∈ row, x ∈ xs) ?_ ?_ ?_⟩
    · exact ⟨[], bt.cell (bt.free st hD) _, st.cell st hD, upd_same, Nat.le_refl _, fun x h => by simp at h⟩
    · rintro i H2 hi ⟨row, bt2, st2, h2, hl2, hsub⟩
      have ha2 := bt2 _ _ (hs.ne_strs ha) ha
      refine ⟨rfl, _, rfl, Nat.zero_le _, fun e he => ?_⟩
      have sm := same_new he (o := .lst [])
      refine ⟨eSs xs, eSs [], dp_Ss (sm _ _ ha2), .lst (SqL.of upd_same) .nil, Nat.le_trans (dep_Ss _) (by decide), ?_⟩
      have st3 := st2.same sm
      have bt3 := bt2.same sm
      have h3 := sm _ _ h2
      generalize upd H2 e (.lst []) = H3 at sm st3 bt3 h3 ⊢
      rw [enc_Ss]
      refine ⟨_, rfl, iteB (fun c => ?_) (fun c => ?_)⟩
      · have hx0 : 0 < xs.length := by
          cases xs with
          | nil => simp at c
          | cons x r => exact Nat.zero_lt_succ _
        refine ⟨_, rfl, _, rfl, s, d, rfl, st3, fun j2 H4 k0 k1 bt4 st4 => ?_⟩
        have ha3 := bt3 _ _ (hs.ne_strs ha) ha
        have ha4 := bt4 _ _ (st3.ne_strs ha3) ha3
        have h4 := bt4 _ _ (st3.ne_strs h3) h3
        have hpos : (0 : Int) < ((xs.map V.str).length : Int) := by rw [List.length_map]; omega
        obtain ⟨v, hv, hvm⟩ := atI_some (xs := xs.map V.str) (i := j2 % ((xs.map V.str).length : Int)) (Int.emod_nonneg _ (by omega)) (Int.emod_lt_of_pos _ hpos)
        obtain ⟨y, hy, rfl⟩ := List.mem_map.mp hvm
        refine ⟨_, rfl, _, _, rfl, .inl (SqL.of ha4), _, _, rfl, rfl, hpos, _, _, _, _, rfl, rfl, SqL.of ha4, hv, ?_⟩
        refine ⟨_, h4, by rw [List.length_map]; exact sl1 (by omega), row ++ [y], (bt3.trans bt4).cell (bt.free st hD) _, st4.cell st hD, by rw [upd_same, List.map_append]; rfl, by rw [List.length_append]; exact Nat.succ_le_succ hl2, fun x hx => ?_⟩
        rcases List.mem_append.mp hx with hx | hx
        · exact hsub x hx
        · rw [List.mem_singleton.mp hx]; exact hy
      · exact ⟨row, bt3, st3, h3, by omega, hsub⟩
    · rintro H2 ⟨row, bt2, st2, h2, hl2, hsub⟩
      exact q D H2 row (bt.free st hD) bt2 st2 h2 (by omega) hsub
end
end SG
namespace SG
open PySem PySem.Spec PyProof.Rows L2
section
variable {P : Program} {w : World} {K : PySem.W.Frag} {mg : Str → Option Value} {base : Heap} {A : Ad}
theorem ok__law_built (T : Txt K mg A) : FnOk P w K mg base CX0 3 A.a__law_built A.d__law_built ["_law_cell_here", "_law_many"] sp_built := by
  have G__law_next_of : FnOk P w K mg base CX0 1 A.a__law_next_of A.d__law_next_of ["_law_state"] sp_next := ok__law_next_of T
  have G__law_digits : FnOk P w K mg base CX0 1 A.a__law_digits A.d__law_digits ["_law_cell_here", "_law_many"] sp_digits := ok__law_digits T
  have G__law_called : FnOk P w K mg base CX0 2 A.a__law_called A.d__law_called ["_law_state", "_law_many"] sp_called := ok__law_called T
  have G__law_drawn : FnOk P w K mg base CX0 2 A.a__law_drawn A.d__law_drawn ["_law_state", "_law_names", "_law_most"] sp_drawn := ok__law_drawn T
  refine T.F__law_built.ok sc__law_built (fun vs H Q E h => ?_) (fun cdv A0 outer s0 H vs Q E hr h => ?_)
  · obtain ⟨c, n, rfl, _⟩ := h
    rfl
  · obtain ⟨cell, n, rfl, n1, n6, q⟩ := h
    have hu := hu_of hr
    have hu64 := hu64_of hr
    refine ⟨_, (pss_cons (ps_set (i := 2) sc__law_built.nd rfl (Or.inl rfl) (pe_lst (pa_cons (pe_call G__law_digits (hr.mono (by decide)) (by rfl) T.g__law_digits T.F__law_digits.kp T.b__law_digits .nil pass0 (pa_cons (pv 0) (pa_cons pe_int pa_nil))) (pa_cons (pe_un un_neg pe_int) pa_nil))))
 (pss_cons (ps_set (i := 3) sc__law_built.nd rfl (Or.inl rfl) (pe_call G__law_called (hr.mono (by decide)) (by rfl) T.g__law_called T.F__law_called.kp T.b__law_called .nil pass0 (pa_cons (pv 2) (pa_cons (pv 1) pa_nil))))
 (pss_cons (ps_set (i := 4) sc__law_built.nd rfl (Or.inl rfl) (pe_ix (r := rIxL K) ix_list (pe_lst (pa_cons pe_str (pa_cons pe_str (pa_cons pe_str (pa_cons pe_str pa_nil))))) (pe_op op_mod (pe_call G__law_next_of (hr.mono (by decide)) (by rfl) T.g__law_next_of T.F__law_next_of.kp T.b__law_next_of .nil pass0 (pa_cons (pv 2) pa_nil)) pe_int) (fun _ _ => rfl)))
 (pss_cons (ps_set (i := 5) sc__law_built.nd rfl (Or.inr rfl) pe_dnewK)
 (pss_cons (ps_set (i := 6) sc__law_built.nd rfl (Or.inl rfl) (pe_lst pa_nil))
 (pss_cons (ps_for PassesOwn.never rfl (pi_range1 (by rfl) T.range (pa_cons (pv 1) pa_nil)) (pg_name (i := 7) sc__law_built.nd rfl (Or.inl rfl))
 (pss_cons (ps_set (i := 8) sc__law_built.nd rfl (Or.inl rfl) (pe_call G__law_drawn (hr.mono (by decide)) (by rfl) T.g__law_drawn T.F__law_drawn.kp T.b__law_drawn .nil pass0 (pa_cons (pv 2) (pa_cons (pe_slice (r := rSlL K) sl_list (pv 3) po_none (po_some (pv 7))) (pa_cons pe_int pa_nil)))))
 (pss_cons (ps_while PassesOwn.never (pt_cmpR op_gt (pe_callB (id := "sum") (r := rSum K) (cr_sum rfl) (by rfl) T.sum (by decide +kernel) (pa_cons (pe_lc (own := [("_law_name", 13)]) (g := gName 13) (by rfl) sc__law_built.nd (pi_list (pv 8)) (blkOk_by (own := [("_law_name", 13)]) (N := ["_law_cell_here", "_law_many", "_law_state", "_law_names", "_law_letters", "_law_reach", "_law_rules", "_law_k", "_law_row", "_law_j", "_law_rule", "_law_turn", "_law_at", "_law_name"]) (sc := defScope s__law_built) (by decide +kernel)) (fun _ _ _ _ _ => (pg_name (i := 13) sc__law_built.nd rfl (Or.inl rfl))) (fun _ _ _ _ _ => pts_nil) (fun _ _ _ _ _ => (pe_dget hu (pv 5) (pv 13) (fun _ _ => rfl)))) pa_nil)) pe_int (nomark _)) (pss_one (ps_expr (pe_bm0 PySem.F.plainAttrs_list PySem.F.slot_list_pop PySem.F.type_list_pop mt_pop (pv 8)))))
 (pss_cons (ps_dput hu (pv 5) (pe_ix (r := rIxL K) ix_list (pv 3) (pv 7) (fun _ _ => rfl)) (pe_op op_add pe_int (pe_callB (id := "sum") (r := rSum K) (cr_sum rfl) (by rfl) T.sum (by decide +kernel) (pa_cons (pe_lc (own := [("_law_name", 13)]) (g := gName 13) (by rfl) sc__law_built.nd (pi_list (pv 8)) (blkOk_by (own := [("_law_name", 13)]) (N := ["_law_cell_here", "_law_many", "_law_state", "_law_names", "_law_letters", "_law_reach", "_law_rules", "_law_k", "_law_row", "_law_j", "_law_rule", "_law_turn", "_law_at", "_law_name"]) (sc := defScope s__law_built) (by decide +kernel)) (fun _ _ _ _ _ => (pg_name (i := 13) sc__law_built.nd rfl (Or.inl rfl))) (fun _ _ _ _ _ => pts_nil) (fun _ _ _ _ _ => (pe_dget hu (pv 5) (pv 13) (fun _ _ => rfl)))) pa_nil))) rfl)
 (pss_one (ps_expr (pe_bm PySem.F.plainAttrs_list PySem.F.slot_list_append PySem.F.type_list_append mt_append (pv 6) (pa_cons (pe_tup (pa_cons (pe_ix (r := rIxL K) ix_list (pv 3) (pv 7) (fun _ _ => rfl)) (pa_cons (pe_ix (r := rIxS) ix_str (pv 4) (pe_op op_mod (pe_call G__law_next_of (hr.mono (by decide)) (by rfl) T.g__law_next_of T.F__law_next_of.kp T.b__law_next_of .nil pass0 (pa_cons (pv 2) pa_nil)) (pe_callB (id := "len") call_len_str (by rfl) T.len (by decide +kernel) (pa_cons (pv 4) pa_nil))) (fun _ _ => rfl)) (pa_cons (pv 8) pa_nil)))) pa_nil))))))))
 (pss_cons (ps_for PassesOwn.never rfl (pi_range1 (by rfl) T.range (pa_cons (pv 1) pa_nil)) (pg_name (i := 7) sc__law_built.nd rfl (Or.inl rfl))
 (pss_one (ps_for PassesOwn.never rfl (pi_range1 (by rfl) T.range (pa_cons (pe_op op_mod (pe_call G__law_next_of (hr.mono (by decide)) (by rfl) T.g__law_next_of T.F__law_next_of.kp T.b__law_next_of .nil pass0 (pa_cons (pv 2) pa_nil)) pe_int) pa_nil)) (pg_name (i := 9) sc__law_built.nd rfl (Or.inl rfl))
 (pss_cons (ps_set (i := 10) sc__law_built.nd rfl (Or.inl rfl) (pe_tup (pa_cons (pe_ix (r := rIxL K) ix_list (pv 3) (pv 7) (fun _ _ => rfl)) (pa_cons (pe_ix (r := rIxS) ix_str (pv 4) (pe_op op_mod (pe_call G__law_next_of (hr.mono (by decide)) (by rfl) T.g__law_next_of T.F__law_next_of.kp T.b__law_next_of .nil pass0 (pa_cons (pv 2) pa_nil)) (pe_callB (id := "len") call_len_str (by rfl) T.len (by decide +kernel) (pa_cons (pv 4) pa_nil))) (fun _ _ => rfl)) (pa_cons (pe_call G__law_drawn (hr.mono (by decide)) (by rfl) T.g__law_drawn T.F__law_drawn.kp T.b__law_drawn .nil pass0 (pa_cons (pv 2) (pa_cons (pv 3) (pa_cons pe_int pa_nil)))) pa_nil)))))
 (pss_one (ps_if (pt_cmpR (r := rNotInP K) (op_notInP hu64) (pv 10) (pv 6) (by rfl)) (pss_one (ps_expr (pe_bm PySem.F.plainAttrs_list PySem.F.slot_list_append PySem.F.type_list_append mt_append (pv 6) (pa_cons (pv 10) pa_nil)))) pss_nil))))))
 (pss_cons (ps_set (i := 11) sc__law_built.nd rfl (Or.inl rfl) (pe_op op_mod (pe_call G__law_next_of (hr.mono (by decide)) (by rfl) T.g__law_next_of T.F__law_next_of.kp T.b__law_next_of .nil pass0 (pa_cons (pv 2) pa_nil)) (pv 1)))
 (pss_cons (ps_set (i := 12) sc__law_built.nd rfl (Or.inl rfl) (pe_op op_mod (pe_call G__law_next_of (hr.mono (by decide)) (by rfl) T.g__law_next_of T.F__law_next_of.kp T.b__law_next_of .nil pass0 (pa_cons (pv 2) pa_nil)) (pe_callB (id := "len") (r := Evl.rLenS K) call_len_seq (by rfl) T.len (by decide +kernel) (pa_cons (pv 6) pa_nil))))
 (pss_one (ps_ret (pe_tup (pa_cons (pe_op op_cat (pe_slice (r := rSlL K) sl_list (pv 3) (po_some (pv 11)) po_none) (pe_slice (r := rSlL K) sl_list (pv 3) po_none (po_some (pv 11)))) (pa_cons (pe_op op_cat (pe_slice (r := rSlL K) sl_list (pv 6) (po_some (pv 12)) po_none) (pe_slice (r := rSlL K) sl_list (pv 6) po_none (po_some (pv 12)))) pa_nil)))))))))))))), ?_⟩
    -- the state
    refine ⟨_, rfl, cell, 90, rfl, by omega, by omega, fun d H3 ds sm3 hd hdd hdl hdg => ?_⟩
    refine ⟨_, rfl, sl2 (by show 2 ≤ 1000000; decide), fun s hs => ?_⟩
    have st0 : StAt (upd H3 s (.lst [.ref d, .int (-1)])) s d := ⟨ne_of_none hdd hs, ⟨_, upd_same⟩, ds, same_new hs _ _ hdd, by intro e; rw [e] at hdl; simp at hdl, by omega, hdg⟩
    have hs1 : H s = none := sm3.free hs
    have sm4 : Same H (upd H3 s (.lst [.ref d, .int (-1)])) := sm3.trans (same_new hs)
    -- the names
    refine ⟨_, rfl, _, rfl, s, d, n, rfl, n6, st0, fun nl H4 names hnl bt4 st4 hxs hc => ?_⟩
    have sm5 : Same H H4 := bt4.under hs1 sm4
    have hnl1 : H nl = none := sm4.free hnl
    have nnd := hc.nd
    have nlen := hc.1
    have nne : names ≠ [] := fun e => by rw [e] at nlen; simp at nlen; omega
    -- the letters
    refine ⟨sl2 (by show 4 ≤ 1000000; decide), fun lt hlt => ?_⟩
    have st5 := st4.same (same_new hlt (o := .lst [.str "a", .str "ab", .str "xyz", .str "ab"]))
    have sm6 := sm5.trans (same_new hlt (o := .lst [.str "a", .str "ab", .str "xyz", .str "ab"]))
    have hxs5 := same_new hlt (o := .lst [.str "a", .str "ab", .str "xyz", .str "ab"]) _ _ hxs
    refine ⟨_, rfl, s, d, rfl, st5, fun j H5 j0 j1 bt5 st6 => ?_⟩
    have nlt : lt ≠ s := by
      obtain ⟨o, ho⟩ := st4.s_some
      exact (ne_of_none ho hlt).symm
    obtain ⟨v, hv, hm⟩ := atI_some (xs := ([("a" : Str), "ab", "xyz", "ab"]).map V.str) (i := j % 4) (by omega) (by simp; omega)
    obtain ⟨LT, hLT, rfl⟩ := List.mem_map.mp hm
    obtain ⟨L3, L0, Lok⟩ := letters_ok LT hLT
    refine ⟨_, _, rfl, rfl, lt0, lt, _, _, _, rfl, rfl, SqL.of (bt5 _ _ nlt upd_same), hv, ?_⟩
    have sm7 := bt5.under hs1 sm6
    have hxs6 := bt5 _ _ (st5.ne_strs hxs5) hxs5
    clear bt5 hxs5 sm6 st5 nlt hv hm hLT hlt bt4 sm5 sm4 st0
    -- reach, rules
    intro re hre
    refine ⟨Nat.zero_le _, fun ru hru => ?_⟩
    have hre0 : H re = none := sm7.free hre
    have hru0 : H ru = none := (sm7.trans (same_new hre)).free hru
    have nreru : re ≠ ru := ne_of_none upd_same hru
    have b0 : BuiltSt H (upd (upd H5 re (.dK [])) ru (.lst [])) s d nl ru names [] := by
      have e := (same_new hre (o := .dK [])).trans (same_new hru (o := .lst []))
      exact ⟨sm7.trans e, st6.same e, e _ _ hxs6, [], upd_same, .nil⟩
    have r0 : (upd (upd H5 re (.dK [])) ru (.lst [])) re = some (.dK []) := by rw [upd_ne nreru, upd_same]
    generalize (upd (upd H5 re (.dK [])) ru (.lst [])) = H6 at b0 r0 ⊢
    clear st6 sm7 hxs6
    refine ⟨_, rfl, (n : Int), rfl, by omega, by omega, for_range (fun k σ' H' => ∃ (x7 x8 : Option V) (kvs : List (Key × V)) (rs : List Rule), σ' = [some (.int cell), some (.int n), some (.ref s), some (.ref nl), some (.str LT), some (.ref re), some (.ref ru), x7, x8, none, none, none, none, none] ∧ BuiltSt H H' s d nl ru names rs ∧ H' re = some (.dK kvs) ∧ kvs.length ≤ k ∧ (∀ x ∈ names.take k, ∃ z : Int, valV kvs (Sum.inr x : Key) = some (.int z)) ∧ rs.map (·.1) = names.take k ∧ (∀ r ∈ rs, r.1 ∈ names ∧ isLetter r.2.1 = true ∧ r.2.2.length ≤ 3 ∧ ∀ x ∈ r.2.2, x ∈ names)) ?_ ?_ ?_⟩
    · exact ⟨_, _, [], [], rfl, b0, r0, Nat.le_refl _, fun x h => by simp at h, by simp, fun r h => by simp at h⟩
    · rintro k σ' H7 hk ⟨x7, x8, kvs, rs, rfl, b, hr7, hkl, hval, hmap, hok⟩
      obtain ⟨nk, hkn⟩ : ∃ nk, names[k]? = some nk := ⟨_, List.getElem?_eq_getElem (by omega)⟩
      -- row = _law_drawn(state, names[:k], 3)
      refine ⟨_, rfl, _, rfl, _, rfl, _, rfl, nl, _, rfl, SqL.of b.nm, fun p0 hp0 => ?_⟩
      have e8 := same_new hp0 (o := .lst (cutV (names.map V.str) none (some (0 + (k : Int)))))
      have hp8 : (upd H7 p0 (.lst (cutV (names.map V.str) none (some (0 + (k : Int)))))) p0 = some (.lst ((names.take k).map V.str)) := by
        rw [upd_same, Int.zero_add, cut_lt, List.map_take]
      have b8 := b.same e8
      refine ⟨s, d, p0, names.take k, 3, rfl, by omega, by rw [List.length_take]; omega, b8.st, hp8, fun ra H9 row hra bt9 st9 hrow9 hrl hsub => ?_⟩
      have bt79 : But s H7 H9 := (but_of_same e8).trans bt9
      have hra7 : H7 ra = none := e8.free hra
      have hrs : ra ≠ s := st9.ne_strs hrow9
      -- while
      refine ⟨fun m σ' H' => ∃ row : List Str, row.length = m ∧ σ' = [some (.int cell), some (.int n), some (.ref s), some (.ref nl), some (.str LT), some (.ref re), some (.ref ru), some (.int (0 + (k : Int))), some (.ref ra), none, none, none, none, none] ∧ But s H7 H' ∧ StAt H' s d ∧ H' ra = some (.lst (row.map V.str)) ∧ row.length ≤ 3 ∧ (∀ x ∈ row, x ∈ names.take k), ⟨_, row, rfl, rfl, bt79, st9, hrow9, hrl, hsub⟩, ?_⟩
      clear st9 hrow9 hrl hsub bt9 hra hp8 e8 b8 bt79 row
      rintro m σ' H10 ⟨row, rfl, rfl, bt, st, hrow, hrl, hsub⟩
      -- the sum of the row's reach
      have hval' : ∀ x ∈ row, valV kvs (Sum.inr x : Key) = some (.int (intOf kvs x)) := fun x hx => intOf_eq (hval x (hsub x hx))
      have hre10 : H10 re = some (.dK kvs) := bt _ _ (b.st.ne_dk hr7) hr7
      have summed : ∀ (σ1 : L2.St) (H1 : Hp), Same H10 H1 → H1 re = some (.dK kvs) := fun _ H1 e => e _ _ hre10
      refine ⟨_, rfl, ra, rfl, ⟨_, SqL.of hrow⟩, fun D hD => lc_scal (K := K) (ys := (row.map (intOf kvs)).map V.int) (SqL.of hrow) hD (by simp) (by rw [List.length_map]; omega) (fun _ => rfl) (fun i x y H' Q' g1 g2 sm k => ?_) (fun H11 sm11 hl11 => ?_)⟩
      · obtain ⟨x1, hx1, rfl⟩ := map_at g1
        have hx2 : (row.map (intOf kvs))[i]? = some (intOf kvs x1) := by rw [List.getElem?_map, hx1]; rfl
        have ey := map_get hx2 g2
        subst ey
        exact ⟨_, rfl, _, rfl, re, _, rfl, .inl ⟨kvs, Sum.inr x1, .inl (sm _ _ hre10), rfl, (hval' x1 (List.mem_of_getElem? hx1)).symm⟩, k _ fun _ _ h => h⟩
      refine ⟨D, _, rfl, SqL.of hl11, _, _, rfl, rfl, _, rfl, iteB (fun hc1 => ?_) (fun _ => ?_)⟩
      · -- pop
        have hpos : 0 < row.length := by
          cases row with
          | nil => simp at hc1
          | cons x r => exact Nat.zero_lt_succ _
        have hrow11 := sm11 _ _ hrow
        refine ⟨fun σ' H' => ∃ row' : List Str, row'.length < row.length ∧ σ' = [some (.int cell), some (.int n), some (.ref s), some (.ref nl), some (.str LT), some (.ref re), some (.ref ru), some (.int (0 + (k : Int))), some (.ref ra), none, none, none, none, none] ∧ But s H7 H' ∧ StAt H' s d ∧ H' ra = some (.lst (row'.map V.str)) ∧ row'.length ≤ 3 ∧ (∀ x ∈ row', x ∈ names.take k), fun σ' H' ⟨row', h1, h2⟩ => ⟨_, h1, row', rfl, h2⟩, ?_⟩
        refine ⟨_, rfl, .inl ⟨rfl, _, SqL.of hrow11⟩, ra, _, _, rfl, rfl, hrow11, List.getElem?_eq_getElem (by rw [List.length_map]; omega), ?_⟩
        refine ⟨row.dropLast, by rw [List.length_dropLast]; omega, rfl, (bt.same sm11).cell hra7 _, ?_, by rw [upd_same, ← List.map_dropLast], by rw [List.length_dropLast]; omega, fun x hx => hsub x (List.dropLast_subset _ hx)⟩
        exact (st.same sm11).cell b.st hra7
      -- reach[nk] = 1 + sum
      have bt11 := bt.same sm11
      have st11 := st.same sm11
      have b11 := b.but hs1 bt11 st11
      have hre11 := sm11 _ _ hre10
      have hrow11 := sm11 _ _ hrow
      refine ⟨_, rfl, ra, rfl, ⟨_, SqL.of hrow11⟩, fun D2 hD2 => lc_scal (K := K) (ys := (row.map (intOf kvs)).map V.int) (SqL.of hrow11) hD2 (by simp) (by rw [List.length_map]; omega) (fun _ => rfl) (fun i x y H' Q' g1 g2 sm k => ?_) (fun H12 sm12 hl12 => ?_)⟩
      · obtain ⟨x1, hx1, rfl⟩ := map_at g1
        have hx2 : (row.map (intOf kvs))[i]? = some (intOf kvs x1) := by rw [List.getElem?_map, hx1]; rfl
        have ey := map_get hx2 g2
        subst ey
        exact ⟨_, rfl, _, rfl, re, _, rfl, .inl ⟨kvs, Sum.inr x1, .inl (sm _ _ hre11), rfl, (hval' x1 (List.mem_of_getElem? hx1)).symm⟩, k _ fun _ _ h => h⟩
      have b12 := b11.same sm12
      have hre12 := sm12 _ _ hre11
      have hrow12 := sm12 _ _ hrow11
      have hat : atI (names.map V.str) (0 + (k : Int)) = some (.str nk) := by
        rw [Int.zero_add, atI_nat (j := k)]
        · rw [List.getElem?_map, hkn]; rfl
      refine ⟨D2, _, rfl, SqL.of hl12, _, _, rfl, rfl, _, rfl, _, rfl, _, rfl, nl, _, _, _, rfl, rfl, SqL.of b12.nm, hat, re, _, rfl, DPut.k (k := Sum.inr nk) hre12 (sl1 (by omega)), ?_⟩
      generalize hkv : putK kvs (Sum.inr nk : Key) (V.int (1 + (row.map (intOf kvs)).sum)) = kvs2
      have b13 := b12.dict (kvs2 := kvs2) hre12 hre0
      have nrare : ra ≠ re := fun z => by rw [z, hre12] at hrow12; cases hrow12
      have hrow13 : (upd H12 re (.dK kvs2)) ra = some (.lst (row.map V.str)) := by rw [upd_ne nrare]; exact hrow12
      have hre13 : (upd H12 re (.dK kvs2)) re = some (.dK kvs2) := upd_same
      generalize (upd H12 re (.dK kvs2)) = H13 at b13 hrow13 hre13 ⊢
      -- rules.append((nk, letters[..], row))
      obtain ⟨ts, hts, _⟩ := b13.tr
      refine ⟨_, rfl, .inl ⟨rfl, _, SqL.of hts⟩, _, rfl, _, rfl, nl, _, _, _, rfl, rfl, SqL.of b13.nm, hat, _, rfl, _, rfl, s, d, rfl, b13.st, fun j2 H14 k0 k1 bt14 st14 => ?_⟩
      have b14 := b13.but hs1 bt14 st14
      have hts14 := bt14 _ _ (b13.st.ne_refs hts) hts
      have hrow14 := bt14 _ _ (b13.st.ne_strs hrow13) hrow13
      have hre14 := bt14 _ _ (b13.st.ne_dk hre13) hre13
      obtain ⟨c1, hc1, hc2⟩ := letter_ix L0 j2
      refine ⟨_, rfl, LT, rfl, sl2 (by omega), _, _, rfl, rfl, by show (0 : Int) < _; exact_mod_cast L0, _, _, _, rfl, rfl, sl2 (by omega), hc1, _, rfl, sl2 (by show 3 ≤ 1000000; decide), fun t ht => ?_⟩
      have e15 := same_new ht (o := .tup [.str nk, .str ⟨#[c1]⟩, .ref ra])
      have b15 := b14.same e15
      have hts15 := e15 _ _ hts14
      have hl : rs.length = k := by
        have := congrArg List.length hmap
        rw [List.length_map, List.length_take] at this
        omega
      have hl2 : ts.length = k := by
        obtain ⟨ts', g1, g2⟩ := b13.tr
        rw [hts] at g1
        have := HO.lst.inj (Option.some.inj g1)
        have := congrArg List.length this
        rw [List.length_map, List.length_map, paired_len g2] at this
        omega
      refine ⟨_, _, _, rfl, rfl, hts15, by rw [List.length_map]; exact sl1 (by omega), ?_⟩
      have hra0 : H ra = none := b.sm.free hra7
      have nraru : ra ≠ ru := fun z => by
        obtain ⟨ts', g1, g2⟩ := b.tr
        rw [z, g1] at hra7
        cases hra7
      have htt : (upd H14 t (.tup [.str nk, .str ⟨#[c1]⟩, .ref ra])) t = some (.tup [.str nk, .str ⟨#[c1]⟩, .ref ra]) := upd_same
      have b16 := b15.put hru0 nne hts15 (r := (nk, ⟨#[c1]⟩, row)) nraru ⟨b14.sm.free ht, ra, hra0, htt, e15 _ _ hrow14⟩ htt
      have nre : re ≠ ru := nreru
      refine ⟨_, _, kvs2, rs ++ [(nk, ⟨#[c1]⟩, row)], rfl, b16, by rw [upd_ne nre]; exact e15 _ _ hre14, ?_, ?_, ?_, ?_⟩
      · have := putK_le kvs (Sum.inr nk : Key) (V.int (1 + (row.map (intOf kvs)).sum))
        rw [hkv] at this
        omega
      · intro x hx
        rw [take_snoc hkn] at hx
        rw [← hkv]
        by_cases e : x = nk
        · exact ⟨_, by rw [valV_put, if_pos (by rw [e])]⟩
        · rcases List.mem_append.mp hx with hx | hx
          · obtain ⟨z, hz⟩ := hval x hx
            exact ⟨z, by rw [valV_put, if_neg (fun q => e (Sum.inr.inj q))]; exact hz⟩
          · exact absurd (List.mem_singleton.mp hx) e
      · rw [List.map_append, hmap, take_snoc hkn]; rfl
      · intro r hr1
        rcases List.mem_append.mp hr1 with hr1 | hr1
        · exact hok r hr1
        · rw [List.mem_singleton.mp hr1]
          exact ⟨List.mem_of_getElem? hkn, Lok _ hc2, hrl, fun x hx => List.mem_of_mem_take (hsub x hx)⟩
    -- more rules
    rintro σ' H7 ⟨x7, x8, kvs, rs, rfl, b, hr7, hkl, hval, hmap, hok⟩
    rw [List.take_of_length_le (by omega)] at hmap
    have hf0 := FewR.first nnd hmap
    have hrn : rs.Nodup := (List.pairwise_map.mp (hmap ▸ nnd)).imp fun h e => h (by rw [e])
    have hl0 : rs.length ≤ n := by
      have := congrArg List.length hmap
      rw [List.length_map] at this
      omega
    have hne0 : rs ≠ [] := fun e => by rw [e] at hmap; exact nne hmap.symm
    clear hval hkl hr7 hmap
    refine ⟨_, rfl, (n : Int), rfl, by omega, by omega, for_range (fun k σ' H' => ∃ (x7 x8 x9 x10 : Option V) (rs : List Rule), σ' = [some (.int cell), some (.int n), some (.ref s), some (.ref nl), some (.str LT), some (.ref re), some (.ref ru), x7, x8, x9, x10, none, none, none] ∧ BuiltSt H H' s d nl ru names rs ∧ rs.Nodup ∧ FewR names rs k 1 ∧ rs ≠ [] ∧ rs.length ≤ n + 3 * k ∧ (∀ r ∈ rs, r.1 ∈ names ∧ isLetter r.2.1 = true ∧ r.2.2.length ≤ 3 ∧ ∀ x ∈ r.2.2, x ∈ names)) ?_ ?_ ?_⟩
    · exact ⟨_, _, _, _, rs, rfl, b, hrn, hf0, hne0, hl0, hok⟩
    · clear b hok hf0 hrn hne0 hl0 rs
      rintro k σ' H8 hk ⟨x7, x8, x9, x10, rs, rfl, b, hrn, hf, hne, hl, hok⟩
      obtain ⟨nk, hkn⟩ : ∃ nk, names[k]? = some nk := ⟨_, List.getElem?_eq_getElem (by omega)⟩
      have hat : atI (names.map V.str) (0 + (k : Int)) = some (.str nk) := by
        rw [Int.zero_add, atI_nat (j := k)]
        · rw [List.getElem?_map, hkn]; rfl
      refine ⟨_, rfl, s, d, rfl, b.st, fun j H9 j0 j1 bt9 st9 => ?_⟩
      have b9 := b.but hs1 bt9 st9
      refine ⟨_, _, rfl, rfl, lt0, _, rfl, by omega, by omega, for_range (fun m σ' H' => ∃ (x9 x10 : Option V) (rs : List Rule), σ' = [some (.int cell), some (.int n), some (.ref s), some (.ref nl), some (.str LT), some (.ref re), some (.ref ru), some (.int (0 + (k : Int))), x8, x9, x10, none, none, none] ∧ BuiltSt H H' s d nl ru names rs ∧ rs.Nodup ∧ FewR names rs k (1 + m) ∧ rs ≠ [] ∧ rs.length ≤ n + 3 * k + m ∧ (∀ r ∈ rs, r.1 ∈ names ∧ isLetter r.2.1 = true ∧ r.2.2.length ≤ 3 ∧ ∀ x ∈ r.2.2, x ∈ names)) ?_ ?_ ?_⟩
      · exact ⟨_, _, rs, rfl, b9, hrn, hf, hne, hl, hok⟩
      · clear b9 b hok hf hrn hne hl rs bt9 st9
        rintro m σ' H10 hm ⟨x9, x10, rs, rfl, b, hrn, hf, hne, hl, hok⟩
        refine ⟨_, rfl, _, rfl, nl, _, _, _, rfl, rfl, SqL.of b.nm, hat, _, rfl, _, rfl, s, d, rfl, b.st, fun j2 H11 k0 k1 bt11 st11 => ?_⟩
        have b11 := b.but hs1 bt11 st11
        obtain ⟨c1, hc1, hc2⟩ := letter_ix L0 j2
        refine ⟨_, rfl, LT, rfl, sl2 (by omega), _, _, rfl, rfl, by show (0 : Int) < _; exact_mod_cast L0, _, _, _, rfl, rfl, sl2 (by omega), hc1, ?_⟩
        refine ⟨_, rfl, _, rfl, s, d, nl, names, 3, rfl, by omega, by omega, b11.st, b11.nm, fun ra H12 row hra bt12 st12 hrow hrl hsub => ?_⟩
        have b12 := b11.but hs1 bt12 st12
        refine ⟨sl2 (by show 3 ≤ 1000000; decide), fun t ht => ?_⟩
        have e13 := same_new ht (o := .tup [.str nk, .str ⟨#[c1]⟩, .ref ra])
        have b13 := b12.same e13
        have htt : (upd H12 t (.tup [.str nk, .str ⟨#[c1]⟩, .ref ra])) t = some (.tup [.str nk, .str ⟨#[c1]⟩, .ref ra]) := upd_same
        have hrow13 := e13 _ _ hrow
        have ht0 : H t = none := b12.sm.free ht
        generalize (upd H12 t (.tup [.str nk, .str ⟨#[c1]⟩, .ref ra])) = H13 at b13 htt hrow13 ⊢
        obtain ⟨ts, hts, hpr⟩ := b13.tr
        refine ⟨_, rfl, _, rfl, eTrio (nk, ⟨#[c1]⟩, row), rs.map eTrio, dp_trio ⟨ra, htt, hrow13⟩, .inl (dp_trios ⟨ts, hts, Paired.mapP hpr fun _ _ ⟨_, w, _, h3, h4⟩ => ⟨w, h3, h4⟩⟩), Nat.le_trans (dep_Trio _) (by decide), _, rfl, ?_⟩
        rw [any_enc enc_Trio]
        refine iteB (fun hc3 => ?_) (fun hc3 => ?_)
        · have hnew : (nk, (⟨#[c1]⟩ : Str), row) ∉ rs := by simpa using hc3
          have hl2 : ts.length = rs.length := paired_len hpr
          refine ⟨_, rfl, .inl ⟨rfl, _, SqL.of hts⟩, _, rfl, _, _, _, rfl, rfl, hts, by rw [List.length_map]; exact sl1 (by omega), ?_⟩
          have hra11 : H11 ra = none := hra
          have nraru : ra ≠ ru := fun z => by
            obtain ⟨ts', g1, g2⟩ := b11.tr
            rw [z, g1] at hra11
            cases hra11
          have b14 := b13.put hru0 nne hts (r := (nk, ⟨#[c1]⟩, row)) nraru ⟨ht0, ra, b11.sm.free hra11, htt, hrow13⟩ htt
          refine ⟨_, _, rs ++ [(nk, ⟨#[c1]⟩, row)], rfl, b14, ?_, hf.put nnd hkn, by simp, by rw [List.length_append]; exact Nat.succ_le_succ hl, ?_⟩
          · rw [List.nodup_append]
            exact ⟨hrn, by simp, fun x hx y hy e => hnew (by rw [← List.mem_singleton.mp hy, ← e]; exact hx)⟩
          · intro r hr1
            rcases List.mem_append.mp hr1 with hr1 | hr1
            · exact hok r hr1
            · rw [List.mem_singleton.mp hr1]
              exact ⟨List.mem_of_getElem? hkn, Lok _ hc2, hrl, hsub⟩
        · exact ⟨_, _, rs, rfl, b13, hrn, hf.up, hne, by omega, hok⟩
      · rintro σ' H10 ⟨y9, y10, rs, rfl, b, hrn, hf, hne, hl, hok⟩
        exact ⟨_, _, _, _, rs, rfl, b, hrn, hf.next (by omega), hne, by omega, hok⟩
    -- turned about
    clear b hok hf0 hrn hne0 hl0 rs
    rintro σ' H8 ⟨x7, x8, x9, x10, rs, rfl, b, hrn, hf, hne, hl, hok⟩
    refine ⟨_, rfl, s, d, rfl, b.st, fun j H9 j0 j1 bt9 st9 => ?_⟩
    have b9 := b.but hs1 bt9 st9
    refine ⟨_, rfl, _, _, rfl, rfl, by show (0 : Int) < (n : Int); omega, ?_⟩
    refine ⟨_, rfl, s, d, rfl, b9.st, fun j2 H10 k0 k1 bt10 st10 => ?_⟩
    have b10 := b9.but hs1 bt10 st10
    obtain ⟨ts, hts, hpr⟩ := b10.tr
    have hl2 : ts.length = rs.length := paired_len hpr
    have hpos : 0 < ts.length := by rw [hl2]; exact List.length_pos_iff.mpr hne
    refine ⟨_, rfl, _, _, rfl, .inl (SqL.of hts), _, _, rfl, rfl, by show (0 : Int) < _; rw [List.length_map]; omega, ?_⟩
    obtain ⟨u1, hu1⟩ : ∃ u : Nat, j % (n : Int) = (u : Int) := Int.eq_ofNat_of_zero_le (Int.emod_nonneg _ (by omega))
    obtain ⟨u2, hu2⟩ : ∃ u : Nat, j2 % ((ts.map V.ref).length : Int) = (u : Int) := Int.eq_ofNat_of_zero_le (Int.emod_nonneg _ (by rw [List.length_map]; omega))
    dsimp only
    rw [hu1, hu2]
    clear hu1 hu2
    -- the names
    have hnl10 := b10.nm
    refine ⟨_, rfl, _, rfl, _, rfl, nl, _, rfl, SqL.of hnl10, fun p1 hp1 => ?_⟩
    have e1 := same_new hp1 (o := .lst (cutV (names.map V.str) (some (u1 : Int)) none))
    have h1 : (upd H10 p1 (.lst (cutV (names.map V.str) (some (u1 : Int)) none))) p1 = some (.lst ((names.drop u1).map V.str)) := by
      rw [upd_same, cut_ge, List.map_drop]
    generalize (upd H10 p1 (.lst (cutV (names.map V.str) (some (u1 : Int)) none))) = H11 at e1 h1 ⊢
    refine ⟨_, rfl, _, rfl, _, rfl, nl, _, rfl, SqL.of (e1 _ _ hnl10), fun p2 hp2 => ?_⟩
    have e2 := same_new hp2 (o := .lst (cutV (names.map V.str) none (some (u1 : Int))))
    have h2 : (upd H11 p2 (.lst (cutV (names.map V.str) none (some (u1 : Int))))) p2 = some (.lst ((names.take u1).map V.str)) := by
      rw [upd_same, cut_lt, List.map_take]
    have h1' := e2 _ _ h1
    generalize (upd H11 p2 (.lst (cutV (names.map V.str) none (some (u1 : Int))))) = H12 at e2 h2 h1' ⊢
    refine ⟨p1, p2, _, _, rfl, rfl, h1', h2, by rw [List.length_map, List.length_map, List.length_drop, List.length_take]; exact sl2 (by omega), fun na hna => ?_⟩
    have e3 := same_new hna (o := .lst ((names.drop u1).map V.str ++ (names.take u1).map V.str))
    have h3 : (upd H12 na (.lst ((names.drop u1).map V.str ++ (names.take u1).map V.str))) na = some (.lst ((names.drop u1 ++ names.take u1).map V.str)) := by
      rw [upd_same, List.map_append]
    have e123 := e1.trans (e2.trans e3)
    have hna0 : H na = none := b10.sm.free ((e1.trans e2).free hna)
    generalize (upd H12 na (.lst ((names.drop u1).map V.str ++ (names.take u1).map V.str))) = H13 at e3 h3 e123 ⊢
    clear h1 h1' h2 e1 e2 e3 hna hp1 hp2
    -- the rules
    have hts13 := e123 _ _ hts
    refine ⟨_, rfl, _, rfl, _, rfl, ru, _, rfl, SqL.of hts13, fun p1 hp1 => ?_⟩
    have e1 := same_new hp1 (o := .lst (cutV (ts.map V.ref) (some (u2 : Int)) none))
    have h1 : (upd H13 p1 (.lst (cutV (ts.map V.ref) (some (u2 : Int)) none))) p1 = some (.lst ((ts.drop u2).map V.ref)) := by
      rw [upd_same, cut_ge, List.map_drop]
    generalize (upd H13 p1 (.lst (cutV (ts.map V.ref) (some (u2 : Int)) none))) = H14 at e1 h1 ⊢
    refine ⟨_, rfl, _, rfl, _, rfl, ru, _, rfl, SqL.of (e1 _ _ hts13), fun p2 hp2 => ?_⟩
    have e2 := same_new hp2 (o := .lst (cutV (ts.map V.ref) none (some (u2 : Int))))
    have h2 : (upd H14 p2 (.lst (cutV (ts.map V.ref) none (some (u2 : Int))))) p2 = some (.lst ((ts.take u2).map V.ref)) := by
      rw [upd_same, cut_lt, List.map_take]
    have h1' := e2 _ _ h1
    generalize (upd H14 p2 (.lst (cutV (ts.map V.ref) none (some (u2 : Int))))) = H15 at e2 h2 h1' ⊢
    refine ⟨p1, p2, _, _, rfl, rfl, h1', h2, by rw [List.length_map, List.length_map, List.length_drop, List.length_take]; exact sl2 (by omega), fun rx hrx => ?_⟩
    have e3 := same_new hrx (o := .lst ((ts.drop u2).map V.ref ++ (ts.take u2).map V.ref))
    have h4 : (upd H15 rx (.lst ((ts.drop u2).map V.ref ++ (ts.take u2).map V.ref))) rx = some (.lst ((ts.drop u2 ++ ts.take u2).map V.ref)) := by
      rw [upd_same, List.map_append]
    have e456 := e1.trans (e2.trans e3)
    have hrx13 := (e1.trans e2).free hrx
    generalize (upd H15 rx (.lst ((ts.drop u2).map V.ref ++ (ts.take u2).map V.ref))) = H16 at e3 h4 e456 ⊢
    have h5 := e456 _ _ h3
    have eAll := e123.trans e456
    refine ⟨sl2 (by show 2 ≤ 1000000; decide), fun p hp => ?_⟩
    have e17 := same_new hp (o := .tup [.ref na, .ref rx])
    have eA := eAll.trans e17
    refine q p na rx _ (names.drop u1 ++ names.take u1) (rs.drop u2 ++ rs.take u2) (b10.sm.trans eA) (b10.sm.free (eAll.free hp)) hna0 (b10.sm.free (e123.free hrx13)) (ne_of_none h3 hrx13) upd_same (e17 _ _ h5) ⟨ts.drop u2 ++ ts.take u2, e17 _ _ h4, ?_⟩ (areNames_perm (turned_perm names u1) (hc.names n1 n6)) (fun x hx => hc.mem_at n6 ((turned_perm names u1).mem_iff.mpr hx)) ((GoodR.of hrn hok hf).perm (fun x hx => (turned_perm names u1).mem_iff.mp hx) (turned_perm rs u2)) ?_ ?_ ?_
    · have hp0 : Paired (TrioF H (upd H16 p (.tup [.ref na, .ref rx]))) ts rs := Paired.mapP hpr fun _ _ ⟨a, w, c, h3, h4⟩ => ⟨a, w, c, eA _ _ h3, eA _ _ h4⟩
      exact paired_turn hp0 u2
    · intro e
      have := (turned_perm rs u2).length_eq
      rw [e] at this
      exact hne (List.eq_nil_of_length_eq_zero this)
    · rw [← (turned_perm rs u2).length_eq]; omega
    · rw [← (turned_perm names u1).length_eq]; exact nlen -- NLEN
end
end SG
namespace SG
open PySem PySem.Spec PyProof.Rows L2
section
variable {P : Program} {w : World} {K : PySem.W.Frag} {mg : Str → Option Value} {base : Heap} {A : Ad}
theorem ok__law_is_name (T : Txt K mg A) : FnOk P w K mg base CX0 1 A.a__law_is_name A.d__law_is_name ["_law_text"] sp_is_name := by
  refine T.F__law_is_name.ok sc__law_is_name (fun vs H Q E h => ?_) (fun cdv A0 outer s0 H vs Q E hr h => ?_)
  · obtain ⟨x, rfl, _⟩ := h
    rfl
  · obtain ⟨x, rfl, hx, q⟩ := h
    have hz : x.length ≤ sizeLine := sl2 hx
    refine ⟨_, (pss_cons (ps_setLc (i := 1) (own := [("_law_sign", 2)]) (g := gName 2) (by rfl) sc__law_is_name.nd rfl rfl (sw_true rfl rfl rfl (by decide +kernel)) (pi_str (pv 0)) (blkOk_by (own := [("_law_sign", 2)]) (N := ["_law_text", "_law_good", "_law_sign"]) (sc := defScope s__law_is_name) (by decide +kernel)) (fun _ _ _ _ _ => (pg_name (i := 2) sc__law_is_name.nd rfl (Or.inl rfl))) (fun _ _ _ _ _ => pts_one (pt_cmpR op_in_sign (pv 2) pe_str (by rfl))) (fun _ _ _ _ _ => (pv 2)))
 (pss_one (ps_ret (pe_and (pe_chain op_lt op_lt pe_int (pe_callB (id := "len") call_len_str (by rfl) T.len (by decide +kernel) (pa_cons (pv 0) pa_nil)) pe_int) (pe_and (pe_cmpR op_eq (pe_callB (id := "len") (r := Evl.rLenS K) call_len_seq (by rfl) T.len (by decide +kernel) (pa_cons (pv 1) pa_nil)) (pe_callB (id := "len") call_len_str (by rfl) T.len (by decide +kernel) (pa_cons (pv 0) pa_nil)) (nomark _)) (pe_one (pe_cmpR op_ne (pv 0) pe_str (nomark _)))))))), ?_⟩
    refine ⟨_, rfl, x, rfl, fun D hD => lc_it (walk_str (z := x)) (fun i H' => Same H H' ∧ H' D = some (.lst (((x.cps.toList.take i).filter fun c => decide (c ∈ abcS.cps.toList)).map fun c => V.str ⟨#[c]⟩))) ?_ ?_ ?_ ?_⟩
    · exact ⟨same_new hD, upd_same⟩
    · rintro i H' _ _
      trivial
    · rintro i v H1 H1' hi ⟨sm, h1⟩ ⟨rfl, c, hc, rfl⟩
      have hc2 : x.cps.toList[i]? = some c := by rw [Array.getElem?_toList]; exact hc
      have hl : ((x.cps.toList.take i).filter fun c => decide (c ∈ abcS.cps.toList)).length ≤ 1000000 := by
        have g1 := List.length_filter_le (fun c => decide (c ∈ abcS.cps.toList)) (x.cps.toList.take i)
        rw [List.length_take] at g1
        have g2 : x.cps.toList.length = x.length := Array.length_toList
        omega
      refine ⟨rfl, ?_⟩
      refine ⟨_, rfl, c, abcS, rfl, rfl, _, rfl, ?_⟩
      rw [take_snoc hc2, List.filter_append, List.map_append]
      refine iteB (fun h => ?_) (fun h => ?_)
      · have e : [c].filter (fun c => decide (c ∈ abcS.cps.toList)) = [c] := by rw [List.filter_cons, if_pos h]; rfl
        rw [e]
        exact ⟨_, rfl, _, h1, by rw [List.length_map]; exact sl1 (by omega), same_mut sm hD, by rw [upd_same]; rfl⟩
      · have e : [c].filter (fun c => decide (c ∈ abcS.cps.toList)) = [] := by rw [List.filter_cons, if_neg (by rw [h]; exact Bool.false_ne_true)]; rfl
        rw [e, List.map_nil, List.append_nil]
        exact ⟨sm, h1⟩
    · rintro H1 ⟨sm, h1⟩
      rw [List.take_of_length_le (by rw [Array.length_toList]; exact Nat.le_refl _)] at h1
      have hq := q H1 sm
      have hsmall : decide (V.int ((((x.cps.toList.filter fun c => decide (c ∈ abcS.cps.toList)).map fun c => V.str ⟨#[c]⟩).length : Nat) : Int) = V.int ((x.length : Nat) : Int)) = isSmall x := by
        rw [List.length_map]
        unfold isSmall
        have hxl : x.length = x.cps.toList.length := by rw [Array.length_toList]; rfl
        rw [hxl]
        by_cases c : x.cps.toList.all fun c => decide (c ∈ abcS.cps.toList)
        · rw [c]
          refine decide_eq_true ?_
          rw [List.filter_eq_self.mpr fun a ha => List.all_eq_true.mp c a ha]
        · rw [Bool.eq_false_iff.mpr c]
          refine decide_eq_false fun h => c ?_
          have h := V.int.inj h
          have h := List.length_filter_eq_length_iff.mp (show (x.cps.toList.filter fun c => decide (c ∈ abcS.cps.toList)).length = x.cps.toList.length by omega)
          exact List.all_eq_true.mpr h
      refine ⟨_, rfl, x, rfl, hz, _, _, rfl, rfl, _, rfl, iteB (fun g1 => ?_) (fun g1 => ?_)⟩
      · have g1' : (0 : Int) < (x.length : Int) := of_decide_eq_true g1
        refine ⟨_, _, rfl, rfl, _, rfl, iteB (fun g2 => ?_) (fun g2 => ?_)⟩
        · have g2' : (x.length : Int) < 9 := of_decide_eq_true g2
          refine ⟨_, rfl, D, _, rfl, .inl (SqL.of h1), _, rfl, x, rfl, hz, rfl, _, rfl, ?_⟩
          rw [hsmall]
          have e9 : isName x = (isSmall x && decide (x ≠ ("names" : Str))) := by
            unfold isName
            rw [decide_eq_true (show 1 ≤ x.length by omega), decide_eq_true (show x.length ≤ 8 by omega)]
            simp
          rw [e9] at hq
          cases hsm : isSmall x with
          | true =>
            refine iteT ?_
            rw [hsm, Bool.true_and] at hq
            refine ⟨_, rfl, rfl, ?_⟩
            have e : decide (x ≠ ("names" : Str)) = !decide (V.str x = V.str ("names" : Str)) := by
              by_cases e : x = ("names" : Str)
              · simp [e]
              · simp [e]
            rw [e] at hq
            exact hq
          | false =>
            refine iteF ?_
            rw [hsm, Bool.false_and] at hq
            exact hq
        · have g2' : ¬ (x.length : Int) < 9 := of_decide_eq_false g2
          have e : isName x = false := by
            unfold isName
            rw [decide_eq_false (show ¬ x.length ≤ 8 by omega)]
            simp
          rw [e] at hq
          exact hq
      · have g1' : ¬ (0 : Int) < (x.length : Int) := of_decide_eq_false g1
        have e : isName x = false := by
          unfold isName
          rw [decide_eq_false (show ¬ 1 ≤ x.length by omega)]
          simp
        rw [e] at hq
        exact ⟨_, rfl, iteF hq⟩
def dueV (o : Option Int) : V := match o with
  | none => .non
  | some i => .int i
theorem filter_ne {α : Type} {p : α → Bool} {xs : List α} : (xs.filter p = []) ↔ ∀ x ∈ xs, p x = false := by
  rw [List.filter_eq_nil_iff]
  constructor
  · intro h x hx
    exact Bool.eq_false_iff.mpr (h x hx)
  · intro h x hx
    rw [h x hx]
    exact Bool.false_ne_true
theorem count_gt (xs : List Str) : (∀ x ∈ xs, ¬ 1 < xs.count x) ↔ xs.Nodup := by
  rw [List.nodup_iff_count]
  constructor
  · intro h x
    by_cases c : x ∈ xs
    · have := h x c
      omega
    · rw [List.count_eq_zero.mpr c]
      omega
  · intro h x _
    have := h x
    omega
theorem countP_strs (xs : List Str) (z : Str) : ((xs.map PyData.str).countP fun y => PyData.eqv y (.str z)) = xs.count z := by
  rw [List.countP_map]
  unfold List.count
  congr 1
theorem rulesOf_count (rs : List Rule) (n : Str) : ((rs.map (·.1)).count n) = (rulesOf rs n).length := by
  unfold rulesOf
  rw [List.length_map]
  induction rs with
  | nil => rfl
  | cons r t ih =>
    rw [List.map_cons, List.count_cons, List.filter_cons, ih]
    by_cases c : r.1 = n
    · simp [c]
    · simp [c]
theorem letsBy_iff {names : List Str} {qs : List Rule} {r : Rule} : letsBy names qs r = true ↔ r.1 ∈ names ∧ isLetter r.2.1 = true ∧ r.2.2.length ≤ 3 ∧ (∀ x ∈ r.2.2, x ∈ names) ∧ (rulesOf qs r.1).length < 4 ∧ r ∉ qs := by
  have e : r.2 ∈ rulesOf qs r.1 ↔ r ∈ qs := mem_rulesOf
  unfold letsBy
  simp only [Bool.and_eq_true, decide_eq_true_eq, List.all_eq_true, e]
  constructor
  · rintro ⟨⟨⟨⟨⟨a, b⟩, c⟩, d⟩, f⟩, g⟩
    exact ⟨a, b, c, d, f, g⟩
  · rintro ⟨a, b, c, d, f, g⟩
    exact ⟨⟨⟨⟨⟨a, b⟩, c⟩, d⟩, f⟩, g⟩
theorem letsBy_no {names : List Str} {qs : List Rule} {r : Rule} (h : ¬ (r.1 ∈ names ∧ isLetter r.2.1 = true ∧ r.2.2.length ≤ 3 ∧ (∀ x ∈ r.2.2, x ∈ names) ∧ (rulesOf qs r.1).length < 4 ∧ r ∉ qs)) : letsBy names qs r = false := by
  cases e : letsBy names qs r with
  | false => rfl
  | true => exact absurd (letsBy_iff.mp e) h
theorem any_trio {ps : List Rule} {p : Rule} : ((ps.map eTrio).any fun z => PyData.eqv z (eTrio p)) = true ↔ p ∈ ps := by
  rw [List.any_eq_true]
  constructor
  · rintro ⟨z, hz, e⟩
    obtain ⟨q, hq, rfl⟩ := List.mem_map.mp hz
    rw [enc_Trio] at e
    have e := of_decide_eq_true e
    exact e ▸ hq
  · intro h
    refine ⟨_, List.mem_map.mpr ⟨p, h, rfl⟩, ?_⟩
    rw [enc_Trio]
    simp
theorem one_sign {x : Str} (h : x.length = 1) : ∃ c, x = ⟨#[c]⟩ ∧ isSmall x = decide (c ∈ abcS.cps.toList) := by
  obtain ⟨⟨l⟩⟩ := x
  cases l with
  | nil => cases h
  | cons c t =>
    cases t with
    | nil => exact ⟨c, rfl, by simp [isSmall]⟩
    | cons d t => exact absurd h (by show ¬ (t.length + 1 + 1 = 1); omega)
def sp_due : Sp := fun vs H Q _ => ∃ (na ru : Addr) (names : List Str) (rs : List Rule), vs = [.ref na, .ref ru] ∧ H na = some (.lst (names.map V.str)) ∧ TriosAt H ru rs ∧ names.length ≤ 1000 ∧ (∀ x ∈ names, x.length ≤ 1000000) ∧ rs.length ≤ 1000 ∧ (∀ r ∈ rs, r.2.1.length ≤ 1000000 ∧ r.2.2.length ≤ 1000) ∧ ∀ H', Same H H' → Q (dueV (dueG names rs)) H'
theorem ok__law_due (T : Txt K mg A) : FnOk P w K mg base CX0 2 A.a__law_due A.d__law_due ["_law_names", "_law_rules"] sp_due := by
  have G__law_is_name : FnOk P w K mg base CX0 1 A.a__law_is_name A.d__law_is_name ["_law_text"] sp_is_name := ok__law_is_name T
  refine T.F__law_due.ok sc__law_due (fun vs H Q E h => ?_) (fun cdv A0 outer s0 H vs Q E hr h => ?_)
  · obtain ⟨_, _, _, _, rfl, _⟩ := h
    rfl
  · obtain ⟨na, ru, names, rs, rfl, hna, hru, hnl, hnx, hrl, hrb, q⟩ := h
    have hu64 := hu64_of hr
    refine ⟨_, (pss_cons (ps_if (PW.pt (pw_or (pt_cmpR (r := rEqP K) (op_eqP hu64) (pv 0) (pe_lst pa_nil) (nomark _)) (pw_or (pt_cmpR op_gt (pe_callB (id := "len") (r := Evl.rLenS K) call_len_seq (by rfl) T.len (by decide +kernel) (pa_cons (pv 0) pa_nil)) pe_int (nomark _)) (pw_or1 (pt_cmpR (r := rNeP K) (op_neP hu64) (pe_lc (own := [("_law_name", 3)]) (g := gName 3) (by rfl) sc__law_due.nd (pi_list (pv 0)) (blkOk_by (own := [("_law_name", 3)]) (N := ["_law_names", "_law_rules", "_law_k", "_law_name", "_law_letter", "_law_row", "_law_one"]) (sc := defScope s__law_due) (by decide +kernel)) (fun _ _ _ _ _ => (pg_name (i := 3) sc__law_due.nd rfl (Or.inl rfl))) (fun _ _ _ _ _ => pts_one (pt_not (pt_val (pe_call G__law_is_name (hr.mono (by decide)) (by rfl) T.g__law_is_name T.F__law_is_name.kp T.b__law_is_name .nil pass0 (pa_cons (pv 3) pa_nil))))) (fun _ _ _ _ _ => (pv 3))) (pe_lst pa_nil) (nomark _)))))) (pss_one (ps_ret (pe_un un_neg pe_int))) pss_nil)
 (pss_cons (ps_if (pt_cmpR (r := rNeP K) (op_neP hu64) (pe_lc (own := [("_law_name", 3)]) (g := gName 3) (by rfl) sc__law_due.nd (pi_list (pv 0)) (blkOk_by (own := [("_law_name", 3)]) (N := ["_law_names", "_law_rules", "_law_k", "_law_name", "_law_letter", "_law_row", "_law_one"]) (sc := defScope s__law_due) (by decide +kernel)) (fun _ _ _ _ _ => (pg_name (i := 3) sc__law_due.nd rfl (Or.inl rfl))) (fun _ _ _ _ _ => pts_one (pt_cmpR op_gt (show PE _ _ (tBM K _ (rCntP K) _ _) from (pe_bm (r := rCntP K) PySem.F.plainAttrs_list PySem.F.slot_list_count PySem.F.type_list_count (mt_countP hu64) (pv 0) (pa_cons (pv 3) pa_nil))) pe_int (nomark _))) (fun _ _ _ _ _ => (pv 3))) (pe_lst pa_nil) (nomark _)) (pss_one (ps_ret (pe_un un_neg pe_int))) pss_nil)
 (pss_cons (ps_for PassesOwn.never rfl (pi_range1 (by rfl) T.range (pa_cons (pe_callB (id := "len") (r := Evl.rLenS K) call_len_seq (by rfl) T.len (by decide +kernel) (pa_cons (pv 1) pa_nil)) pa_nil)) (pg_name (i := 2) sc__law_due.nd rfl (Or.inl rfl))
 (pss_cons (ps_asg (pe_ix (r := rIxL K) ix_list (pv 1) (pv 2) (fun _ _ => rfl)) (pg_tup (by rfl) (pgs_cons (pg_name (i := 3) sc__law_due.nd rfl (Or.inl rfl)) (pgs_cons (pg_name (i := 4) sc__law_due.nd rfl (Or.inl rfl)) (pgs_cons (pg_name (i := 5) sc__law_due.nd rfl (Or.inl rfl)) pgs_nil)))))
 (pss_cons (ps_if (PW.pt (pw_or (pt_cmpR (r := rNotInP K) (op_notInP hu64) (pv 3) (pv 0) (by rfl)) (pw_or (pt_cmpR op_ne (pe_callB (id := "len") call_len_str (by rfl) T.len (by decide +kernel) (pa_cons (pv 4) pa_nil)) pe_int (nomark _)) (pw_or1 (pt_cmpR op_notIn_sign (pv 4) pe_str (by rfl)))))) (pss_one (ps_ret (pv 2))) pss_nil)
 (pss_cons (ps_if (PW.pt (pw_or (pt_cmpR op_gt (pe_callB (id := "len") (r := Evl.rLenS K) call_len_seq (by rfl) T.len (by decide +kernel) (pa_cons (pv 5) pa_nil)) pe_int (nomark _)) (pw_or (pt_cmpR (r := rNeP K) (op_neP hu64) (pe_lc (own := [("_law_one", 6)]) (g := gName 6) (by rfl) sc__law_due.nd (pi_list (pv 5)) (blkOk_by (own := [("_law_one", 6)]) (N := ["_law_names", "_law_rules", "_law_k", "_law_name", "_law_letter", "_law_row", "_law_one"]) (sc := defScope s__law_due) (by decide +kernel)) (fun _ _ _ _ _ => (pg_name (i := 6) sc__law_due.nd rfl (Or.inl rfl))) (fun _ _ _ _ _ => pts_one (pt_cmpR (r := rNotInP K) (op_notInP hu64) (pv 6) (pv 0) (by rfl))) (fun _ _ _ _ _ => (pv 6))) (pe_lst pa_nil) (nomark _)) (pw_or1 (pt_cmpR (r := rInP K) (op_inP hu64) (pe_ix (r := rIxL K) ix_list (pv 1) (pv 2) (fun _ _ => rfl)) (pe_slice (r := rSlL K) sl_list (pv 1) po_none (po_some (pv 2))) (by rfl)))))) (pss_one (ps_ret (pv 2))) pss_nil)
 (pss_one (ps_if (pt_cmpR op_gt (pe_bm (r := rCntP K) PySem.F.plainAttrs_list PySem.F.slot_list_count PySem.F.type_list_count (mt_countP hu64) (pe_lc (own := [("_law_one", 6)]) (g := gName 6) (by rfl) sc__law_due.nd (pi_list (pe_slice (r := rSlL K) sl_list (pv 1) po_none (po_some (pv 2)))) (blkOk_by (own := [("_law_one", 6)]) (N := ["_law_names", "_law_rules", "_law_k", "_law_name", "_law_letter", "_law_row", "_law_one"]) (sc := defScope s__law_due) (by decide +kernel)) (fun _ _ _ _ _ => (pg_name (i := 6) sc__law_due.nd rfl (Or.inl rfl))) (fun _ _ _ _ _ => pts_nil) (fun _ _ _ _ _ => (pe_ix (r := rIxT K) ix_tup (pv 6) pe_int (fun _ _ => rfl)))) (pa_cons (pv 3) pa_nil)) pe_int (nomark _)) (pss_one (ps_ret (pv 2))) pss_nil))))))
 (pss_one (ps_ret pe_non))))), ?_⟩
    have q1 : areNames names = false → ∀ H', Same H H' → Q (.int (-1)) H' := fun e H' sm => by
      have := q H' sm
      rw [dueG_names e] at this
      exact this
    have bad : ∀ {b : Bool}, b = false → (∃ c, areNames names = (b && c)) → areNames names = false := fun {b} hb ⟨c, e⟩ => by rw [e, hb]; rfl
    refine ⟨_, rfl, Nat.zero_le _, fun e he => ?_⟩
    have sm1 := same_new he (o := .lst [])
    refine ⟨eSs names, eSs [], dp_Ss (sm1 _ _ hna), .lst (SqL.of upd_same) .nil, Nat.le_trans (dep_Ss _) (by decide), _, rfl, ?_⟩
    rw [enc_Ss]
    generalize (upd H e (.lst [])) = H1 at sm1 ⊢
    by_cases c0 : names = []
    · rw [decide_eq_true c0]
      refine iteT (iteT ?_)
      exact ⟨_, rfl, q1 (by rw [c0]; rfl) H1 sm1⟩
    rw [decide_eq_false c0]
    refine iteF ?_
    refine ⟨_, rfl, na, _, rfl, .inl (SqL.of (sm1 _ _ hna)), _, _, rfl, rfl, _, rfl, iteB (fun c1 => iteT ?_) (fun c1 => ?_)⟩
    · have c1 := of_decide_eq_true c1
      rw [List.length_map] at c1
      refine ⟨_, rfl, q1 ?_ H1 sm1⟩
      unfold areNames
      rw [decide_eq_false (show ¬ names.length ≤ 6 by omega)]
      simp
    have c1 := of_decide_eq_false c1
    rw [List.length_map] at c1
    have hn6 : names.length ≤ 6 := by omega
    refine ⟨_, rfl, na, rfl, ⟨_, SqL.of (sm1 _ _ hna)⟩, fun D hD => lc_list (K := K) (a := na) (xs := names.map V.str) (fun i H' => Same H1 H' ∧ H' D = some (.lst (((names.take i).filter fun x => !isName x).map V.str))) ?_ ?_ ?_ ?_⟩
    · exact ⟨same_new hD, upd_same⟩
    · rintro i H' _ ⟨sm, _⟩
      exact SqL.of (sm _ _ (sm1 _ _ hna))
    · rintro i v H2 hi ⟨sm2, h2⟩
      obtain ⟨x, hx, rfl⟩ := map_at hi
      have hxm := List.mem_of_getElem? hx
      refine ⟨rfl, ?_⟩
      refine ⟨_, rfl, x, rfl, hnx x hxm, fun H3 sm3 => ⟨_, rfl, ?_⟩⟩
      have h3 := sm3 _ _ h2
      rw [take_snoc hx, List.filter_append, List.map_append]
      cases hn : isName x with
      | true =>
        refine iteF ?_
        have e : [x].filter (fun x => !isName x) = [] := by simp [hn]
        rw [e, List.map_nil, List.append_nil]
        exact ⟨sm2.trans sm3, h3⟩
      | false =>
        refine iteT ?_
        have e : [x].filter (fun x => !isName x) = [x] := by simp [hn]
        rw [e]
        refine ⟨_, rfl, _, h3, ?_, same_mut (sm2.trans sm3) hD, by rw [upd_same]; rfl⟩
        have := List.length_filter_le (fun x => !isName x) (names.take i)
        rw [List.length_take] at this
        rw [List.length_map]
        exact sl1 (by omega)
    rintro H2 ⟨sm2, h2⟩
    rw [List.length_map, List.take_length] at h2
    have sm02 := sm1.trans sm2
    refine ⟨Nat.zero_le _, fun e2 he2 => ?_⟩
    have sm3 := same_new he2 (o := .lst [])
    refine ⟨eSs (names.filter fun x => !isName x), eSs [], dp_Ss (sm3 _ _ h2), .lst (SqL.of upd_same) .nil, Nat.le_trans (dep_Ss _) (by decide), _, rfl, ?_⟩
    rw [enc_Ss]
    have sm03 := sm02.trans sm3
    generalize (upd H2 e2 (.lst [])) = H3 at sm03 ⊢
    clear sm3 sm2 h2 sm1 sm02
    by_cases c2 : ¬ (names.filter fun x => !isName x) = []
    · rw [decide_eq_false c2]
      refine iteT ?_
      refine ⟨_, rfl, q1 ?_ H3 sm03⟩
      cases e : areNames names with
      | false => rfl
      | true =>
        unfold areNames at e
        rw [Bool.and_eq_true] at e
        exact absurd (filter_ne.mpr fun x hx => by rw [List.all_eq_true.mp e.2 x hx]; rfl) c2
    have c2 := Decidable.not_not.mp c2
    rw [decide_eq_true c2]
    refine iteF ?_
    have hall : names.all isName = true := List.all_eq_true.mpr fun x hx => by
      have := filter_ne.mp c2 x hx
      simpa using this
    -- told twice
    refine ⟨_, rfl, na, rfl, ⟨_, SqL.of (sm03 _ _ hna)⟩, fun D hD => lc_list (K := K) (a := na) (xs := names.map V.str) (fun i H' => Same H3 H' ∧ H' D = some (.lst (((names.take i).filter fun x => decide (1 < names.count x)).map V.str))) ?_ ?_ ?_ ?_⟩
    · exact ⟨same_new hD, upd_same⟩
    · rintro i H' _ ⟨sm, _⟩
      exact SqL.of (sm _ _ (sm03 _ _ hna))
    · rintro i v H4 hi ⟨sm4, h4⟩
      obtain ⟨x, hx, rfl⟩ := map_at hi
      refine ⟨rfl, ?_⟩
      refine ⟨_, rfl, .inl ⟨rfl, _, SqL.of (sm4 _ _ (sm03 _ _ hna))⟩, _, rfl, _, names.map PyData.str, .str x, rfl, dp_Ss (sm4 _ _ (sm03 _ _ hna)), .str x, by rw [PyData.depth]; decide, ?_⟩
      rw [countP_strs]
      refine ⟨_, _, rfl, rfl, _, rfl, ?_⟩
      have ec : decide ((1 : Int) < ((names.count x : Nat) : Int)) = decide (1 < names.count x) := by
        by_cases c : 1 < names.count x
        · rw [decide_eq_true c, decide_eq_true (show (1 : Int) < ((names.count x : Nat) : Int) by omega)]
        · rw [decide_eq_false c, decide_eq_false (show ¬ (1 : Int) < ((names.count x : Nat) : Int) by omega)]
      rw [take_snoc hx, List.filter_append, List.map_append]
      show _
      rw [ec]
      refine iteB (fun hc => ?_) (fun hc => ?_)
      · have e : [x].filter (fun x => decide (1 < names.count x)) = [x] := by rw [List.filter_cons, if_pos hc]; rfl
        rw [e]
        refine ⟨_, rfl, _, h4, ?_, same_mut sm4 hD, by rw [upd_same]; rfl⟩
        have := List.length_filter_le (fun x => decide (1 < names.count x)) (names.take i)
        rw [List.length_take] at this
        rw [List.length_map]
        exact sl1 (by omega)
      · have e : [x].filter (fun x => decide (1 < names.count x)) = [] := by rw [List.filter_cons, if_neg (by rw [hc]; exact Bool.false_ne_true)]; rfl
        rw [e, List.map_nil, List.append_nil]
        exact ⟨sm4, h4⟩
    rintro H4 ⟨sm4, h4⟩
    rw [List.length_map, List.take_length] at h4
    have sm04 := sm03.trans sm4
    refine ⟨Nat.zero_le _, fun e4 he4 => ?_⟩
    have sm5 := same_new he4 (o := .lst [])
    refine ⟨eSs (names.filter fun x => decide (1 < names.count x)), eSs [], dp_Ss (sm5 _ _ h4), .lst (SqL.of upd_same) .nil, Nat.le_trans (dep_Ss _) (by decide), _, rfl, ?_⟩
    rw [enc_Ss]
    have sm05 := sm04.trans sm5
    generalize (upd H4 e4 (.lst [])) = H5 at sm05 ⊢
    clear sm5 sm4 h4 sm03 sm04
    by_cases c3 : ¬ (names.filter fun x => decide (1 < names.count x)) = []
    · rw [decide_eq_false c3]
      refine iteT ⟨_, rfl, q1 ?_ H5 sm05⟩
      cases e : areNames names with
      | false => rfl
      | true =>
        unfold areNames at e
        simp only [Bool.and_eq_true, decide_eq_true_eq] at e
        exact absurd (filter_ne.mpr fun x hx => decide_eq_false ((count_gt names).mpr e.1.2 x hx)) c3
    have c3 := Decidable.not_not.mp c3
    rw [decide_eq_true c3]
    refine iteF ?_
    have hnd : names.Nodup := (count_gt names).mp fun x hx => of_decide_eq_false (filter_ne.mp c3 x hx)
    have hok : areNames names = true := by
      unfold areNames
      rw [decide_eq_true (show 1 ≤ names.length from List.length_pos_iff.mpr c0), decide_eq_true hn6, decide_eq_true hnd, hall]
      rfl
    clear c0 c1 c2 c3 hall q1 bad
    -- the rules
    have hru5 := hru.same sm05
    obtain ⟨ts, hts, htr⟩ := hru5
    have htl := paired_len htr
    have hna5 := sm05 _ _ hna
    refine ⟨_, rfl, ru, _, rfl, .inl (SqL.of hts), ((ts.map V.ref).length : Int), rfl, by omega, by rw [List.length_map]; omega, for_range (fun i σ' H' => ∃ x2 x3 x4 x5 x6 : Option V, σ' = [some (.ref na), some (.ref ru), x2, x3, x4, x5, x6] ∧ Same H5 H' ∧ ∀ k r, k < i → rs[k]? = some r → letsBy names (rs.take k) r = true) ?_ ?_ ?_⟩
    · exact ⟨_, _, _, _, _, rfl, Same.refl _, fun k r hk => absurd hk (Nat.not_lt_zero k)⟩
    · rintro i σ' H6 hi ⟨x2, x3, x4, x5, x6, rfl, sm6, hso⟩
      have hi2 : i < rs.length := by
        have : i < (ts.map V.ref).length := by simpa using hi
        rw [List.length_map] at this
        omega
      have ez : (0 : Int) + (i : Int) = (i : Int) := Int.zero_add _
      obtain ⟨t, ht⟩ : ∃ t, ts[i]? = some t := ⟨_, List.getElem?_eq_getElem (by omega)⟩
      obtain ⟨r, hr1⟩ : ∃ r, rs[i]? = some r := ⟨_, List.getElem?_eq_getElem hi2⟩
      have hrm := List.mem_of_getElem? hr1
      obtain ⟨w0, ht5, hw5⟩ := paired_ix htr ht hr1
      have hts6 := sm6 _ _ hts
      have ht6 := sm6 _ _ ht5
      have hw6 := sm6 _ _ hw5
      have hna6 := sm6 _ _ hna5
      have hat : atI (ts.map V.ref) ((0 : Int) + (i : Int)) = some (.ref t) := by
        rw [ez]
        exact atI_nat (j := i) (by rw [List.getElem?_map, ht]; rfl)
      have qk : letsBy names (rs.take i) r = false → ∀ H', Same H6 H' → Q (.int ((0 : Int) + (i : Int))) H' := fun hb H' sm => by
        have := q H' ((sm05.trans sm6).trans sm)
        rw [dueG_at hok hso hr1 hb] at this
        rw [ez]
        exact this
      have sx := Same.refl H6
      refine ⟨_, rfl, _, rfl, ru, _, _, _, rfl, rfl, SqL.of hts6, hat, t, _, rfl, SqT.of ht6, rfl, _, _, rfl, _, _, rfl, _, _, rfl, rfl, ?_⟩
      -- its name, its letter
      refine ⟨_, rfl, _, rfl, .str r.1, names.map PyData.str, .str _, .inl (dp_Ss hna6), by rw [PyData.depth]; decide, _, rfl, ?_⟩
      rw [any_enc enc_str]
      by_cases d1 : ¬ r.1 ∈ names
      · rw [decide_eq_false d1]
        exact iteT (iteT ⟨_, rfl, qk (letsBy_no fun h => d1 h.1) H6 sx⟩)
      have d1 := Decidable.not_not.mp d1
      rw [decide_eq_true d1]
      refine iteF ?_
      refine ⟨_, rfl, r.2.1, rfl, sl2 (hrb r hrm).1, rfl, _, rfl, ?_⟩
      by_cases d2 : ¬ r.2.1.length = 1
      · rw [decide_eq_false (show ¬ V.int ((r.2.1.length : Nat) : Int) = V.int 1 from fun z => d2 (by have := V.int.inj z; omega))]
        refine iteT (iteT ⟨_, rfl, qk (letsBy_no fun h => d2 ?_) H6 sx⟩)
        have := h.2.1
        unfold isLetter at this
        rw [Bool.and_eq_true, decide_eq_true_eq] at this
        exact this.1
      have d2 := Decidable.not_not.mp d2
      rw [decide_eq_true (show V.int ((r.2.1.length : Nat) : Int) = V.int 1 by rw [d2]; rfl)]
      refine iteF ?_
      obtain ⟨c, ec, esm⟩ := one_sign d2
      refine ⟨_, rfl, c, abcS, by rw [ec], rfl, _, rfl, ?_⟩
      cases d3 : decide (c ∈ abcS.cps.toList) with
      | false =>
        refine iteT ⟨_, rfl, qk (letsBy_no fun h => ?_) H6 sx⟩
        have := h.2.1
        unfold isLetter at this
        rw [Bool.and_eq_true, esm, d3] at this
        cases this.2
      | true =>
        refine iteF ?_
        have hlet : isLetter r.2.1 = true := by
          unfold isLetter
          rw [decide_eq_true d2, esm, d3]
          rfl
        -- its row
        refine ⟨_, rfl, w0, _, rfl, .inl (SqL.of hw6), _, _, rfl, rfl, _, rfl, iteB (fun d4 => iteT ⟨_, rfl, qk (letsBy_no fun h => ?_) H6 sx⟩) (fun d4 => ?_)⟩
        · have d4 := of_decide_eq_true d4
          rw [List.length_map] at d4
          have := h.2.2.1
          omega
        have d4 := of_decide_eq_false d4
        rw [List.length_map] at d4
        have hr3 : r.2.2.length ≤ 3 := by omega
        refine ⟨_, rfl, w0, rfl, ⟨_, SqL.of hw6⟩, fun D hD => lc_list (K := K) (a := w0) (xs := r.2.2.map V.str) (fun j H' => Same H6 H' ∧ H' D = some (.lst (((r.2.2.take j).filter fun x => !decide (x ∈ names)).map V.str))) ?_ ?_ ?_ ?_⟩
        · exact ⟨same_new hD, upd_same⟩
        · rintro j H' _ ⟨sm, _⟩
          exact SqL.of (sm _ _ hw6)
        · rintro j v H7 hj ⟨sm7, h7⟩
          obtain ⟨x, hx, rfl⟩ := map_at hj
          refine ⟨rfl, ?_⟩
          refine ⟨_, rfl, _, rfl, .str x, names.map PyData.str, .str x, .inl (dp_Ss (sm7 _ _ hna6)), by rw [PyData.depth]; decide, _, rfl, ?_⟩
          rw [any_enc enc_str, take_snoc hx, List.filter_append, List.map_append]
          by_cases cx : x ∈ names
          · have e : [x].filter (fun x => !decide (x ∈ names)) = [] := by simp [cx]
            rw [decide_eq_true cx, e, List.map_nil, List.append_nil]
            exact iteF ⟨sm7, h7⟩
          · have e : [x].filter (fun x => !decide (x ∈ names)) = [x] := by simp [cx]
            rw [decide_eq_false cx, e]
            refine iteT ⟨_, rfl, _, h7, ?_, same_mut sm7 hD, by rw [upd_same]; rfl⟩
            have := List.length_filter_le (fun x => !decide (x ∈ names)) (r.2.2.take j)
            rw [List.length_take] at this
            rw [List.length_map]
            exact sl1 (by omega)
        rintro H7 ⟨sm7, h7⟩
        rw [List.length_map, List.take_length] at h7
        refine ⟨Nat.zero_le _, fun e7 he7 => ?_⟩
        have sm8 := same_new he7 (o := .lst [])
        refine ⟨eSs (r.2.2.filter fun x => !decide (x ∈ names)), eSs [], dp_Ss (sm8 _ _ h7), .lst (SqL.of upd_same) .nil, Nat.le_trans (dep_Ss _) (by decide), _, rfl, ?_⟩
        rw [enc_Ss]
        have sm68 := sm7.trans sm8
        generalize (upd H7 e7 (.lst [])) = H8 at sm68 ⊢
        clear sm8 sm7 h7
        by_cases d5 : ¬ (r.2.2.filter fun x => !decide (x ∈ names)) = []
        · rw [decide_eq_false d5]
          exact iteT (iteT ⟨_, rfl, qk (letsBy_no fun h => d5 (filter_ne.mpr fun x hx => by rw [decide_eq_true (h.2.2.2.1 x hx)]; rfl)) H8 sm68⟩)
        have d5 := Decidable.not_not.mp d5
        rw [decide_eq_true d5]
        refine iteF ?_
        have hrin : ∀ x ∈ r.2.2, x ∈ names := fun x hx => by
          have := filter_ne.mp d5 x hx
          simpa using this
        -- told before
        have hts8 := sm68 _ _ hts6
        refine ⟨_, rfl, _, rfl, ru, _, _, _, rfl, rfl, SqL.of hts8, hat, _, rfl, _, rfl, _, rfl, ru, _, rfl, SqL.of hts8, fun c9 hc9 => ?_⟩
        have sm9 := same_new hc9 (o := .lst (cutV (ts.map V.ref) none (some ((0 : Int) + (i : Int)))))
        have hc9A : (upd H8 c9 (.lst (cutV (ts.map V.ref) none (some ((0 : Int) + (i : Int)))))) c9 = some (.lst ((ts.take i).map V.ref)) := by
          rw [upd_same, ez, cut_lt, List.map_take]
        have sm69 := sm68.trans sm9
        generalize (upd H8 c9 (.lst (cutV (ts.map V.ref) none (some ((0 : Int) + (i : Int)))))) = H9 at sm69 hc9A ⊢
        have htk := Paired.mapP (paired_take htr i) fun _ _ h => TrioAt.same (sm6.trans sm69) h
        refine ⟨eTrio r, (rs.take i).map eTrio, dp_trio ⟨w0, sm69 _ _ ht6, sm69 _ _ hw6⟩, .inl (dp_trios ⟨_, hc9A, htk⟩), Nat.le_trans (dep_Trio _) (by decide), _, rfl, ?_⟩
        by_cases d6 : r ∈ rs.take i
        · rw [any_trio.mpr d6]
          exact iteT ⟨_, rfl, qk (letsBy_no fun h => h.2.2.2.2.2 d6) H9 sm69⟩
        have ed6 : (((rs.take i).map eTrio).any fun z => PyData.eqv z (eTrio r)) = false := by
          cases e : (((rs.take i).map eTrio).any fun z => PyData.eqv z (eTrio r)) with
          | false => rfl
          | true => exact absurd (any_trio.mp e) d6
        rw [ed6]
        refine iteF ?_
        clear sm9 hc9 hc9A htk
        -- how many
        have hts9 := sm69 _ _ hts6
        refine ⟨_, rfl, _, rfl, _, rfl, ru, _, rfl, SqL.of hts9, fun ca hca => ?_⟩
        have smA := same_new hca (o := .lst (cutV (ts.map V.ref) none (some ((0 : Int) + (i : Int)))))
        have hcaA : (upd H9 ca (.lst (cutV (ts.map V.ref) none (some ((0 : Int) + (i : Int)))))) ca = some (.lst ((ts.take i).map V.ref)) := by
          rw [upd_same, ez, cut_lt, List.map_take]
        have sm6A := sm69.trans smA
        generalize (upd H9 ca (.lst (cutV (ts.map V.ref) none (some ((0 : Int) + (i : Int)))))) = HA at sm6A hcaA ⊢
        have htk := Paired.mapP (paired_take htr i) fun _ _ h => TrioAt.same (sm6.trans sm6A) h
        have htkl := paired_len htk
        refine ⟨ca, rfl, ⟨_, SqL.of hcaA⟩, fun D hD => lc_list (K := K) (a := ca) (xs := (ts.take i).map V.ref) (fun j H' => Same HA H' ∧ H' D = some (.lst ((((rs.take i).take j).map (·.1)).map V.str))) ?_ ?_ ?_ ?_⟩
        · exact ⟨same_new hD, upd_same⟩
        · rintro j H' _ ⟨sm, _⟩
          exact SqL.of (sm _ _ hcaA)
        · rintro j v HB hj ⟨smB, hB⟩
          obtain ⟨u, hu, rfl⟩ := map_at hj
          obtain ⟨r2, hr2, w2, hu2, hw2⟩ := paired_get htk hu
          refine ⟨rfl, tyes (iteT ?_)⟩
          refine ⟨_, rfl, _, _, _, _, rfl, rfl, SqT.of (smB _ _ hu2), atI_nat (j := 0) rfl, _, hB, by rw [List.length_map, List.length_map, List.length_take, List.length_take]; exact sl1 (by omega), same_mut smB hD, ?_⟩
          rw [upd_same, take_snoc hr2, List.map_append, List.map_append]
          rfl
        rintro HB ⟨smB, hB⟩
        rw [List.length_map, htkl, List.take_length] at hB
        refine ⟨.inl ⟨rfl, _, SqL.of hB⟩, _, rfl, _, ((rs.take i).map (·.1)).map PyData.str, .str r.1, rfl, dp_Ss hB, .str _, by rw [PyData.depth]; decide, ?_⟩
        rw [countP_strs, rulesOf_count]
        refine ⟨_, _, rfl, rfl, _, rfl, iteB (fun d7 => ⟨_, rfl, qk (letsBy_no fun h => ?_) HB (sm6A.trans smB)⟩) (fun d7 => ?_)⟩
        · have d7 := of_decide_eq_true d7
          have := h.2.2.2.2.1
          omega
        · have d7 := of_decide_eq_false d7
          refine ⟨_, _, _, _, _, rfl, (sm6.trans sm6A).trans smB, fun k r' hk hr' => ?_⟩
          rcases Nat.lt_or_ge k i with cc | cc
          · exact hso k r' cc hr'
          · have e : k = i := by omega
            subst e
            rw [hr1] at hr'
            rw [← Option.some.inj hr']
            exact letsBy_iff.mpr ⟨d1, hlet, hr3, hrin, by omega, d6⟩
    · rintro σ' H6 ⟨x2, x3, x4, x5, x6, rfl, sm6, hso⟩
      have hso' : rulesOk names rs := fun k r hr' => hso k r (by
        have h1 := (List.getElem?_eq_some_iff.mp hr').1
        show k < (((ts.map V.ref).length : Int)).toNat
        rw [List.length_map]
        omega) hr'
      have := q H6 (sm05.trans sm6)
      rw [dueG_none hok hso'] at this
      exact this
end
end SG
/-! a grammar's text -/
namespace SG
open PySem PySem.Spec PyProof.Rows L2
/-- a class whose instances isinstance knows -/
structure IsaC (K : PySem.W.Frag) (C : Addr) : Prop where
  ha : PySem.W.findIn K (.ref C) "__class__" = some (some (.builtin "object.__class__"))
  hn : PySem.W.specialIn K (.builtin "object.__class__") "__get__" = some (some (.builtin "getset_descriptor.__get__"))
  ht : PySem.W.takesIn K (.builtin "object.__class__") = some true
  hm : PySem.W.mroIn K C (.type "object") = some true
abbrev bS : Str := " "
abbrev nS : Str := "\n"
abbrev hS : Str := "names"
def rowT (ws : List Str) : Str := Str.join bS ws
def ruleW (r : Rule) : List Str := r.1 :: r.2.1 :: r.2.2
def linesT (names : List Str) (rs : List Rule) : List Str := rowT (hS :: names) :: rs.map fun r => rowT (ruleW r)
def textOf (names : List Str) (rs : List Rule) : Str := Str.join nS (linesT names rs)
theorem tl_b : TL.tl bS = 32 :: [] := by decide +kernel
theorem tl_n : TL.tl nS = 10 :: [] := by decide +kernel
theorem tl_h : TL.tl hS = [110, 97, 109, 101, 115] := by decide +kernel
theorem small_no {x : Str} (h : isSmall x = true) {c : Nat} (hc : c < 97) : c ∉ TL.tl x := fun m => by
  unfold isSmall at h
  rw [List.all_eq_true] at h
  have h2 := of_decide_eq_true (h c m)
  rw [abcL, List.mem_map] at h2
  obtain ⟨k, _, e⟩ := h2
  omega
theorem isName_small {x : Str} (h : isName x = true) : isSmall x = true := by
  unfold isName at h
  simp only [Bool.and_eq_true] at h
  exact h.1.2
theorem isLetter_small {x : Str} (h : isLetter x = true) : isSmall x = true := by
  unfold isLetter at h
  simp only [Bool.and_eq_true] at h
  exact h.2
theorem areNames_small {xs : List Str} (e : areNames xs = true) : ∀ x ∈ xs, isSmall x = true := fun x hx => by
  unfold areNames at e
  simp only [Bool.and_eq_true, List.all_eq_true] at e
  exact isName_small (e.2 x hx)
theorem hS_no {c : Nat} (hc : c < 97) : c ∉ TL.tl hS := by
  rw [tl_h]
  intro m
  simp at m
  omega
/-- what stands in a joined text -/
theorem mem_joinL {S : List Nat} {c : Nat} : ∀ {ps : List (List Nat)}, c ∈ TL.joinL S ps → c ∈ S ∨ ∃ p ∈ ps, c ∈ p
  | [], h => by cases h
  | [p], h => .inr ⟨p, List.mem_singleton.mpr rfl, h⟩
  | p :: q :: r, h => by
    have h : c ∈ p ++ (S ++ TL.joinL S (q :: r)) := h
    rcases List.mem_append.mp h with h | h
    · exact .inr ⟨p, List.mem_cons_self, h⟩
    · rcases List.mem_append.mp h with h | h
      · exact .inl h
      · rcases mem_joinL h with h | ⟨x, hx, h⟩
        · exact .inl h
        · exact .inr ⟨x, List.mem_cons_of_mem _ hx, h⟩
theorem rowT_no {ws : List Str} (h : ∀ w ∈ ws, isSmall w = true) : 10 ∉ TL.tl (rowT ws) := fun m => by
  unfold rowT at m
  rw [TL.tl_join, tl_b] at m
  rcases mem_joinL m with m | ⟨p, hp, m⟩
  · simp at m
  · obtain ⟨w, hw, rfl⟩ := List.mem_map.mp hp
    exact small_no (h w hw) (by omega) m
theorem split_row {ws : List Str} (hne : ws ≠ []) (h : ∀ w ∈ ws, isSmall w = true) : Txt.split (rowT ws) bS = ws := by
  unfold rowT
  rw [← TL.join_eq]
  exact TL.split_join tl_b (by decide +kernel) hne fun w hw => small_no (h w hw) (by omega)
theorem split_lines {ls : List Str} (hne : ls ≠ []) (h : ∀ l ∈ ls, 10 ∉ TL.tl l) : Txt.split (Str.join nS ls) nS = ls := by
  rw [← TL.join_eq]
  exact TL.split_join tl_n (by decide +kernel) hne h
theorem hS_small : isSmall hS = true := by decide +kernel
/-- words that are small, lines that are made of them -/
structure SmallT (names : List Str) (rs : List Rule) : Prop where
  nm : ∀ x ∈ names, isSmall x = true
  ru : ∀ r ∈ rs, ∀ w ∈ ruleW r, isSmall w = true
theorem smallT_of {names : List Str} {rs : List Rule} (h : areNames names = true) (g : GoodR names rs) : SmallT names rs :=
  ⟨areNames_small h, fun r hr w hw => by
    obtain ⟨a, b, _, d⟩ := g.ok r hr
    unfold ruleW at hw
    rcases List.mem_cons.mp hw with rfl | hw
    · exact areNames_small h _ a
    · rcases List.mem_cons.mp hw with rfl | hw
      · exact isLetter_small b
      · exact areNames_small h _ (d _ hw)⟩
theorem SmallT.head {names : List Str} {rs : List Rule} (s : SmallT names rs) : ∀ w ∈ hS :: names, isSmall w = true := fun w hw => by
  rcases List.mem_cons.mp hw with rfl | hw
  · exact hS_small
  · exact s.nm w hw
theorem split_text {names : List Str} {rs : List Rule} (s : SmallT names rs) : Txt.split (textOf names rs) nS = linesT names rs := by
  unfold textOf
  refine split_lines (by unfold linesT; simp) fun l hl => ?_
  unfold linesT at hl
  rcases List.mem_cons.mp hl with rfl | hl
  · exact rowT_no s.head
  · obtain ⟨r, hr, rfl⟩ := List.mem_map.mp hl
    exact rowT_no (s.ru r hr)
/-- the law's own text -/
theorem join_cons {y x : Str} : ∀ {xs : List Str}, xs ≠ [] → Str.join y (x :: xs) = x ++ y ++ Str.join y xs
  | [], h => absurd rfl h
  | _ :: _, _ => rfl
theorem str_assoc (a b c : Str) : a ++ b ++ c = a ++ (b ++ c) := TL.ext_tl (by rw [TL.tl_append, TL.tl_append, TL.tl_append, TL.tl_append, List.append_assoc])
theorem str_nil (a : Str) : a ++ (Str.empty) = a := TL.ext_tl (by rw [TL.tl_append]; exact List.append_nil _)
theorem join_snoc (y z : Str) : ∀ {xs : List Str}, xs ≠ [] → Str.join y (xs ++ [z]) = Str.join y xs ++ y ++ z
  | [], h => absurd rfl h
  | [x], _ => rfl
  | x :: w :: r, _ => by
    have ih := join_snoc y z (xs := w :: r) (by simp)
    show x ++ y ++ Str.join y ((w :: r) ++ [z]) = x ++ y ++ Str.join y (w :: r) ++ y ++ z
    rw [ih, str_assoc (x ++ y), str_assoc (x ++ y), str_assoc (Str.join y (w :: r))]
theorem hS_b : hS ++ bS = ("names " : Str) := by decide +kernel
theorem rowT_names {names : List Str} (h : names ≠ []) : ("names " : Str) ++ rowT names = rowT (hS :: names) := by
  unfold rowT
  rw [join_cons h, hS_b]
theorem textOf_nil (names : List Str) : textOf names [] = rowT (hS :: names) := rfl
theorem textOf_snoc (names : List Str) (rs : List Rule) (r : Rule) : textOf names (rs ++ [r]) = textOf names rs ++ nS ++ rowT (ruleW r) := by
  unfold textOf linesT
  rw [List.map_append, ← List.cons_append]
  exact join_snoc _ _ (by simp)
/-! lengths -/
theorem len_app (a b : Str) : (a ++ b).length = a.length + b.length := by
  rw [TL.len_tl, TL.tl_append, List.length_append, ← TL.len_tl, ← TL.len_tl]
theorem join_len (y : Str) : ∀ ws : List Str, (Str.join y ws).length ≤ (ws.map fun w => w.length).sum + ws.length * y.length
  | [] => Nat.zero_le _
  | [x] => by
    show x.length ≤ _
    simp
  | x :: z :: r => by
    have ih := join_len y (z :: r)
    show (x ++ y ++ Str.join y (z :: r)).length ≤ _
    rw [len_app, len_app, List.map_cons, List.sum_cons, List.length_cons, Nat.add_mul]
    omega
theorem sum_le {ws : List Str} {k : Nat} (h : ∀ w ∈ ws, w.length ≤ k) : (ws.map fun w => w.length).sum ≤ ws.length * k := by
  induction ws with
  | nil => exact Nat.zero_le _
  | cons x t ih =>
    rw [List.map_cons, List.sum_cons, List.length_cons, Nat.add_mul]
    have h1 := h x List.mem_cons_self
    have h2 := ih fun w hw => h w (List.mem_cons_of_mem _ hw)
    omega
/-- words of at most 10 signs -/
structure ShortT (names : List Str) (rs : List Rule) : Prop where
  n0 : names ≠ []
  nl : names.length ≤ 6
  rl : rs.length ≤ 100
  nm : ∀ x ∈ names, x.length ≤ 10
  ru : ∀ r ∈ rs, (ruleW r).length ≤ 5 ∧ ∀ w ∈ ruleW r, w.length ≤ 10
theorem shortT_of {names : List Str} {rs : List Rule} (h : areNames names = true) (g : GoodR names rs) (hl : rs.length ≤ 100) : ShortT names rs := by
  have h2 := h
  unfold areNames at h2
  simp only [Bool.and_eq_true, decide_eq_true_eq] at h2
  have hn : ∀ x ∈ names, x.length ≤ 10 := fun x hx => Nat.le_trans (areNames_len h x hx) (by omega)
  refine ⟨fun e => by rw [e] at h2; simp at h2, h2.1.1.2, hl, hn, fun r hr => ?_⟩
  obtain ⟨a, b, c, d⟩ := g.ok r hr
  unfold ruleW
  refine ⟨by simp; omega, fun w hw => ?_⟩
  rcases List.mem_cons.mp hw with rfl | hw
  · exact hn _ a
  · rcases List.mem_cons.mp hw with rfl | hw
    · rw [isLetter_len b]; omega
    · exact hn _ (d _ hw)
theorem rowT_len {ws : List Str} {n : Nat} (h : ∀ w ∈ ws, w.length ≤ 10) (hn : ws.length ≤ n) : (rowT ws).length ≤ 11 * n := by
  have h1 := join_len bS ws
  have h2 := sum_le h
  have h3 : bS.length = 1 := by decide +kernel
  unfold rowT
  rw [h3] at h1
  omega
theorem hS_len : hS.length = 5 := by decide +kernel
theorem ShortT.headw {names : List Str} {rs : List Rule} (s : ShortT names rs) : ∀ w ∈ hS :: names, w.length ≤ 10 := fun w hw => by
  rcases List.mem_cons.mp hw with rfl | hw
  · rw [hS_len]; omega
  · exact s.nm w hw
theorem ShortT.line {names : List Str} {rs : List Rule} (s : ShortT names rs) : ∀ l ∈ linesT names rs, l.length ≤ 100 := fun l hl => by
  unfold linesT at hl
  rcases List.mem_cons.mp hl with rfl | hl
  · have := rowT_len (n := 7) s.headw (by rw [List.length_cons]; have := s.nl; omega)
    omega
  · obtain ⟨r, hr, rfl⟩ := List.mem_map.mp hl
    have := rowT_len (n := 5) (s.ru r hr).2 (s.ru r hr).1
    omega
theorem linesT_len (names : List Str) (rs : List Rule) : (linesT names rs).length = rs.length + 1 := by
  unfold linesT
  simp
theorem nS_len : nS.length = 1 := by decide +kernel
theorem ShortT.text {names : List Str} {rs : List Rule} (s : ShortT names rs) : (textOf names rs).length ≤ 20000 := by
  have h1 := join_len nS (linesT names rs)
  have h2 := sum_le s.line
  have h3 := s.rl
  rw [nS_len] at h1
  rw [linesT_len] at h1 h2
  unfold textOf
  omega
end SG
namespace SG
open PySem PySem.Spec PyProof.Rows L2
section
variable {P : Program} {w : World} {K : PySem.W.Frag} {mg : Str → Option Value} {base : Heap} {A : Ad}
/-- bounds behind n spoilings -/
def BdS (n : Nat) (names : List Str) (rs : List Rule) : Prop := names.length ≤ 7 + n ∧ (∀ x ∈ names, x.length ≤ 20 + n) ∧ rs.length ≤ 30 + n ∧ ∀ r ∈ rs, r.1.length ≤ 20 + n ∧ r.2.1.length ≤ 10 ∧ r.2.2.length ≤ 4 + n
theorem BdS.up {n : Nat} {names : List Str} {rs : List Rule} (h : BdS n names rs) : BdS (n + 1) names rs :=
  ⟨by have := h.1; omega, fun x hx => by have := h.2.1 x hx; omega, by have := h.2.2.1; omega, fun r hr => by have := h.2.2.2 r hr; omega⟩
def oddL : List Str := ["", "abcdefghi", "A", "aB", "a1", "a-b", " a", "a ", "a\n", "\na", "names", "nam", "namess", "a b", "_"]
theorem odd_few : ∀ x ∈ oddL, x.length ≤ 9 := by decide +kernel
def sp_odd : Sp := fun vs H Q _ => ∃ n : Int, vs = [.int n] ∧ ∀ x H', x.length ≤ 9 → Same H H' → Q (.str x) H'
theorem ok__law_odd (T : Txt K mg A) : FnOk P w K mg base CX0 1 A.a__law_odd A.d__law_odd ["_law_number"] sp_odd := by
  refine T.F__law_odd.ok sc__law_odd (fun vs H Q E h => ?_) (fun cdv A0 outer s0 H vs Q E hr h => ?_)
  · obtain ⟨_, rfl, _⟩ := h
    rfl
  · obtain ⟨n, rfl, q⟩ := h
    refine ⟨_, (pss_cons (ps_set (i := 1) sc__law_odd.nd rfl (Or.inl rfl) (pe_lst (pa_cons pe_str (pa_cons pe_str (pa_cons pe_str (pa_cons pe_str (pa_cons pe_str (pa_cons pe_str (pa_cons pe_str (pa_cons pe_str (pa_cons pe_str (pa_cons pe_str (pa_cons pe_str (pa_cons pe_str (pa_cons pe_str (pa_cons pe_str (pa_cons pe_str pa_nil)))))))))))))))))
 (pss_one (ps_ret (pe_ix (r := rIxL K) ix_list (pv 1) (pe_op op_mod (pv 0) pe_int) (fun _ _ => rfl))))), ?_⟩
    refine ⟨sl2 (by show 15 ≤ 1000000; decide), fun p hp => ?_⟩
    have sm := same_new hp (o := .lst (oddL.map V.str))
    have hpA : (upd H p (.lst (oddL.map V.str))) p = some (.lst (oddL.map V.str)) := upd_same
    obtain ⟨v, hv, hm⟩ := atI_some (xs := oddL.map V.str) (Int.emod_nonneg n (show (15 : Int) ≠ 0 by decide)) (Int.emod_lt_of_pos n (show (0 : Int) < 15 by decide))
    obtain ⟨x, hx, rfl⟩ := List.mem_map.mp hm
    exact ⟨_, rfl, _, rfl, _, _, rfl, rfl, lt0, p, _, _, _, rfl, rfl, SqL.of hpA, hv, q x _ (odd_few x hx) sm⟩
/-- what is carried along while rules are made -/
structure Car (H0 H : Hp) (w0 : Addr) (row : List Str) (ps : List Addr) (rs : List Rule) (hs : List (Addr × HO)) : Prop where
  sm : Same H0 H
  held : ∀ p ∈ hs, H p.1 = some p.2
  row : H w0 = some (.lst (row.map V.str))
  prs : Paired (TrioAt H) ps rs
theorem Car.same {H0 H H' : Hp} {w0 : Addr} {row : List Str} {ps : List Addr} {rs : List Rule} {hs : List (Addr × HO)} (c : Car H0 H w0 row ps rs hs) (e : Same H H') : Car H0 H' w0 row ps rs hs := ⟨c.sm.trans e, fun p hp => e _ _ (c.held p hp), e _ _ c.row, Paired.mapP c.prs fun _ _ h => TrioAt.same e h⟩
theorem Car.new {H0 H : Hp} {w0 l : Addr} {row : List Str} {ps : List Addr} {rs : List Rule} {hs : List (Addr × HO)} {o : HO} (c : Car H0 H w0 row ps rs hs) (hl : H l = none) : Car H0 (upd H l o) w0 row ps rs ((l, o) :: hs) := by
  have d := c.same (same_new hl (o := o))
  refine ⟨d.sm, fun p hp => ?_, d.row, d.prs⟩
  rcases List.mem_cons.mp hp with rfl | hp
  · exact upd_same
  · exact d.held p hp
theorem Car.put {H0 H : Hp} {w0 w t : Addr} {row rw : List Str} {ps : List Addr} {rs : List Rule} {a b : Str} {hs : List (Addr × HO)} (c : Car H0 H w0 row ps rs hs) (ht : H t = none) (hw : H w = some (.lst (rw.map V.str))) : Car H0 (upd H t (.tup [.str a, .str b, .ref w])) w0 row (ps ++ [t]) (rs ++ [(a, b, rw)]) hs := by
  have e := same_new ht (o := .tup [.str a, .str b, .ref w])
  have h0 : TrioAt (upd H t (.tup [.str a, .str b, .ref w])) t (a, b, rw) := ⟨w, upd_same, e _ _ hw⟩
  exact ⟨c.sm.trans e, fun p hp => e _ _ (c.held p hp), e _ _ c.row, paired_app (F := TrioAt _) h0 (Paired.mapP c.prs fun _ _ h => TrioAt.same e h)⟩
theorem paired_has {α β : Type} {F : α → β → Prop} : ∀ {xs : List α} {ys : List β}, Paired F xs ys → ∀ {x : α}, x ∈ xs → ∃ y, y ∈ ys ∧ F x y
  | _, _, .nil, _, h => by cases h
  | x :: xs, y :: ys, .cons h1 k, z, h => by
    rcases List.mem_cons.mp h with rfl | h
    · exact ⟨y, List.mem_cons_self, h1⟩
    · obtain ⟨y2, h2, h3⟩ := paired_has k h
      exact ⟨y2, List.mem_cons_of_mem _ h2, h3⟩
theorem cut_strs (ds : List Str) (lo hi : Option Int) : ∃ zs : List Str, cutV (ds.map V.str) lo hi = zs.map V.str ∧ zs.length ≤ ds.length ∧ ∀ z ∈ zs, z ∈ ds := by
  unfold cutV
  rw [List.length_map]
  refine ⟨(ds.drop (HT.sIx ds.length 0 lo)).take (HT.sIx ds.length ds.length hi - HT.sIx ds.length 0 lo), by rw [← List.map_drop, ← List.map_take], ?_, fun z hz => List.mem_of_mem_drop (List.mem_of_mem_take hz)⟩
  rw [List.length_take, List.length_drop]
  omega
def sp_spoilt : Sp := fun vs H Q _ => ∃ (na ru : Addr) (names : List Str) (rs : List Rule) (way at_ num : Int) (n : Nat), vs = [.ref na, .ref ru, .int way, .int at_, .int num] ∧ H na = some (.lst (names.map V.str)) ∧ TriosAt H ru rs ∧ BdS n names rs ∧ n ≤ 100 ∧ names ≠ [] ∧ 0 ≤ at_ ∧ 0 ≤ num ∧ num < 1000000 ∧
  ∀ p na' ru' names' rs' H', Same H H' → H' p = some (.tup [.ref na', .ref ru']) → H' na' = some (.lst (names'.map V.str)) → TriosAt H' ru' rs' → BdS (n + 1) names' rs' → Q (.ref p) H'
theorem set_strs {xs : List Str} {j : Nat} {z : Str} : (xs.map V.str).set j (.str z) = (xs.set j z).map V.str := by rw [List.map_set]
theorem ixN_mod {n : Nat} {i : Int} (h : 0 < n) : ixN n (i % (n : Int)) = some (i % (n : Int)).toNat := by
  have h0 := Int.emod_nonneg i (show (n : Int) ≠ 0 by omega)
  have h1 := Int.emod_lt_of_pos i (show (0 : Int) < n by omega)
  unfold ixN
  rw [if_pos h0, if_pos h1]
theorem trio_upd {H : Hp} {r1 t : Addr} {ts : List Addr} {o : HO} {r : Rule} (h1 : H r1 = some (.lst (ts.map V.ref))) (h0 : ts ≠ []) (h : TrioAt H t r) : TrioAt (upd H r1 o) t r := by
  obtain ⟨w, ht, hw⟩ := h
  refine ⟨w, ?_, ?_⟩
  · rw [upd_ne]
    · exact ht
    · rintro rfl
      rw [h1] at ht
      cases ht
  · rw [upd_ne]
    · exact hw
    · rintro rfl
      rw [h1] at hw
      cases ts with
      | nil => exact h0 rfl
      | cons x xs =>
        cases hq : r.2.2 with
        | nil => rw [hq] at hw; cases hw
        | cons y ys => rw [hq] at hw; cases hw
theorem paired_set {α β : Type} {F : α → β → Prop} : ∀ {xs : List α} {ys : List β} {j : Nat} {x : α} {y : β}, Paired F xs ys → F x y → Paired F (xs.set j x) (ys.set j y)
  | _, _, _, _, _, .nil, _ => .nil
  | _, _, 0, _, _, .cons _ k, h => .cons h k
  | _, _, j + 1, _, _, .cons h1 k, h => .cons h1 (paired_set k h)
theorem paired_cat {α β : Type} {F : α → β → Prop} : ∀ {xs : List α} {ys : List β} {xs2 : List α} {ys2 : List β}, Paired F xs ys → Paired F xs2 ys2 → Paired F (xs ++ xs2) (ys ++ ys2)
  | _, _, _, _, .nil, k => k
  | _, _, _, _, .cons h1 k, k2 => .cons h1 (paired_cat k k2)
theorem ok__law_spoilt (T : Txt K mg A) : FnOk P w K mg base CX0 2 A.a__law_spoilt A.d__law_spoilt ["_law_names", "_law_rules", "_law_way", "_law_at", "_law_number"] sp_spoilt := by
  have G__law_odd : FnOk P w K mg base CX0 1 A.a__law_odd A.d__law_odd ["_law_number"] sp_odd := ok__law_odd T
  refine T.F__law_spoilt.ok sc__law_spoilt (fun vs H Q E h => ?_) (fun cdv A0 outer s0 H vs Q E hr h => ?_)
  · obtain ⟨_, _, _, _, _, _, _, _, rfl, _⟩ := h
    rfl
  · obtain ⟨na, ru, names, rs, way, at_, num, n, rfl, hna, hru, bd, hn, hne, hat, hnum, hnumb, q⟩ := h
    have hu64 := hu64_of hr
    obtain ⟨ts, hts, htr⟩ := hru
    have htl := paired_len htr
    obtain ⟨bd1, bd2, bd3, bd4⟩ := id bd
    have hnl : 0 < names.length := List.length_pos_iff.mpr hne
    refine ⟨_, (pss_cons (ps_set (i := 0) sc__law_spoilt.nd rfl (Or.inl rfl) (pe_callTy (T := "list") (r := Evl.rListS K) call_list_of (by rfl) T.list_ (by decide +kernel) (pa_cons (pv 0) pa_nil)))
 (pss_cons (ps_set (i := 1) sc__law_spoilt.nd rfl (Or.inl rfl) (pe_callTy (T := "list") (r := Evl.rListS K) call_list_of (by rfl) T.list_ (by decide +kernel) (pa_cons (pv 1) pa_nil)))
 (Evl.pss_cut (ps_if (pt_cmpR op_eq (pv 2) pe_int (nomark _)) (pss_one (ps_asg (pe_call G__law_odd (hr.mono (by decide)) (by rfl) T.g__law_odd T.F__law_odd.kp T.b__law_odd .nil pass0 (pa_cons (pv 4) pa_nil)) (pg_sub (pv 0) (pe_op op_mod (pv 3) (pe_callB (id := "len") (r := Evl.rLenS K) call_len_seq (by rfl) T.len (by decide +kernel) (pa_cons (pv 0) pa_nil))) set_list))) (pss_one (ps_if (pt_cmpR op_eq (pv 2) pe_int (nomark _)) (pss_one (ps_expr (pe_bm PySem.F.plainAttrs_list PySem.F.slot_list_insert PySem.F.type_list_insert mt_insert (pv 0) (pa_cons (pe_op op_mod (pv 3) (pe_op op_add (pe_callB (id := "len") (r := Evl.rLenS K) call_len_seq (by rfl) T.len (by decide +kernel) (pa_cons (pv 0) pa_nil)) pe_int)) (pa_cons (pe_ix (r := rIxL K) ix_list (pv 0) (pe_op op_mod (pv 4) (pe_callB (id := "len") (r := Evl.rLenS K) call_len_seq (by rfl) T.len (by decide +kernel) (pa_cons (pv 0) pa_nil))) (fun _ _ => rfl)) pa_nil))))) (pss_one (ps_if (pt_cmpR op_eq (pv 2) pe_int (nomark _)) (pss_cons (ps_set (i := 0) sc__law_spoilt.nd rfl (Or.inl rfl) (pe_op op_cat (pv 0) (pe_op op_rep (pe_lc (own := [("_law_name", 5)]) (g := gName 5) (by rfl) sc__law_spoilt.nd (pi_list (pv 0)) (blkOk_by (own := [("_law_name", 5)]) (N := ["_law_names", "_law_rules", "_law_way", "_law_at", "_law_number", "_law_name", "_law_letter", "_law_row", "_law_some"]) (sc := defScope s__law_spoilt) (by decide +kernel)) (fun _ _ _ _ _ => (pg_name (i := 5) sc__law_spoilt.nd rfl (Or.inl rfl))) (fun _ _ _ _ _ => pts_nil) (fun _ _ _ _ _ => (pe_op op_add_str (pv 5) pe_str))) pe_int)))
 (pss_one (ps_set (i := 0) sc__law_spoilt.nd rfl (Or.inl rfl) (pe_slice (r := rSlL K) sl_list (pv 0) po_none (po_some (pe_op op_add pe_int (pe_op op_mod (pv 4) pe_int))))))) (pss_one (ps_if (pt_cmpR op_eq (pv 2) pe_int (nomark _)) (pss_one (ps_set (i := 0) sc__law_spoilt.nd rfl (Or.inl rfl) (pe_slice (r := rSlL K) sl_list (pv 0) po_none (po_some (pe_un un_neg pe_int))))) (pss_one (ps_if (pt_cmpR (r := rNeP K) (op_neP hu64) (pv 1) (pe_lst pa_nil) (nomark _)) (pss_cons (ps_asg (pe_ix (r := rIxL K) ix_list (pv 1) (pe_op op_mod (pv 3) (pe_callB (id := "len") (r := Evl.rLenS K) call_len_seq (by rfl) T.len (by decide +kernel) (pa_cons (pv 1) pa_nil))) (fun _ _ => rfl)) (pg_tup (by rfl) (pgs_cons (pg_name (i := 5) sc__law_spoilt.nd rfl (Or.inl rfl)) (pgs_cons (pg_name (i := 6) sc__law_spoilt.nd rfl (Or.inl rfl)) (pgs_cons (pg_name (i := 7) sc__law_spoilt.nd rfl (Or.inl rfl)) pgs_nil)))))
 (pss_cons (ps_set (i := 8) sc__law_spoilt.nd rfl (Or.inl rfl) (pe_lst (pa_cons (pe_tup (pa_cons pe_str (pa_cons (pv 6) (pa_cons (pv 7) pa_nil)))) (pa_cons (pe_tup (pa_cons (pe_op op_add_str (pv 5) pe_str) (pa_cons (pv 6) (pa_cons (pv 7) pa_nil)))) (pa_cons (pe_tup (pa_cons (pv 5) (pa_cons pe_str (pa_cons (pv 7) pa_nil)))) (pa_cons (pe_tup (pa_cons (pv 5) (pa_cons pe_str (pa_cons (pv 7) pa_nil)))) (pa_cons (pe_tup (pa_cons (pv 5) (pa_cons pe_str (pa_cons (pv 7) pa_nil)))) pa_nil)))))))
 (pss_cons (ps_set (i := 8) sc__law_spoilt.nd rfl (Or.inl rfl) (pe_op op_cat (pv 8) (pe_lst (pa_cons (pe_tup (pa_cons (pv 5) (pa_cons pe_str (pa_cons (pv 7) pa_nil)))) (pa_cons (pe_tup (pa_cons (pv 5) (pa_cons pe_str (pa_cons (pv 7) pa_nil)))) (pa_cons (pe_tup (pa_cons (pv 5) (pa_cons (pv 6) (pa_cons (pe_op op_cat (pv 7) (pe_lst (pa_cons (pe_op op_add_str (pv 5) pe_str) pa_nil))) pa_nil)))) (pa_cons (pe_tup (pa_cons (pv 5) (pa_cons (pv 6) (pa_cons (pe_lst (pa_cons pe_str pa_nil)) pa_nil)))) pa_nil)))))))
 (pss_cons (ps_set (i := 8) sc__law_spoilt.nd rfl (Or.inl rfl) (pe_op op_cat (pv 8) (pe_lst (pa_cons (pe_tup (pa_cons (pv 5) (pa_cons (pv 6) (pa_cons (pe_op op_rep (pe_lst (pa_cons (pv 5) pa_nil)) pe_int) pa_nil)))) (pa_cons (pe_tup (pa_cons (pv 5) (pa_cons (pv 6) (pa_cons (pe_op op_rep (pe_lst (pa_cons (pv 5) pa_nil)) pe_int) pa_nil)))) (pa_cons (pe_tup (pa_cons (pv 5) (pa_cons (pv 6) (pa_cons (pv 7) pa_nil)))) (pa_cons (pe_tup (pa_cons (pv 5) (pa_cons pe_str (pa_cons (pv 7) pa_nil)))) pa_nil)))))))
 (pss_one (ps_if (pt_cmpR op_eq (pv 2) pe_int (nomark _)) (pss_one (ps_asg (pe_ix (r := rIxL K) ix_list (pv 8) (pe_op op_mod (pv 4) pe_int) (fun _ _ => rfl)) (pg_sub (pv 1) (pe_op op_mod (pv 3) (pe_callB (id := "len") (r := Evl.rLenS K) call_len_seq (by rfl) T.len (by decide +kernel) (pa_cons (pv 1) pa_nil))) set_list))) (pss_one (ps_expr (pe_bm PySem.F.plainAttrs_list PySem.F.slot_list_insert PySem.F.type_list_insert mt_insert (pv 1) (pa_cons (pe_op op_mod (pe_op op_fdiv (pv 4) pe_int) (pe_op op_add (pe_callB (id := "len") (r := Evl.rLenS K) call_len_seq (by rfl) T.len (by decide +kernel) (pa_cons (pv 1) pa_nil)) pe_int)) (pa_cons (pe_ix (r := rIxL K) ix_list (pv 8) (pe_op op_mod (pv 4) pe_int) (fun _ _ => rfl)) pa_nil))))))))))) pss_nil)))))))))
 (pss_one (ps_ret (pe_tup (pa_cons (pv 0) (pa_cons (pv 1) pa_nil)))))))), ?_⟩
    refine ⟨_, rfl, na, _, rfl, .inl (SqL.of hna), fun n1 hn1 => ?_⟩
    have sm1 := same_new hn1 (o := .lst (names.map V.str))
    have hn1A : (upd H n1 (.lst (names.map V.str))) n1 = some (.lst (names.map V.str)) := upd_same
    have hn10 : H n1 = none := hn1
    generalize (upd H n1 (.lst (names.map V.str))) = H1 at sm1 hn1A ⊢
    refine ⟨_, rfl, ru, _, rfl, .inl (SqL.of (sm1 _ _ hts)), fun r1 hr1 => ?_⟩
    have sm2 := same_new hr1 (o := .lst (ts.map V.ref))
    have hr1A : (upd H1 r1 (.lst (ts.map V.ref))) r1 = some (.lst (ts.map V.ref)) := upd_same
    have hr10 : H r1 = none := sm1.free hr1
    have hn2 := sm2 _ _ hn1A
    have sm02 := sm1.trans sm2
    have htr2 := Paired.mapP htr fun _ _ h => TrioAt.same sm02 h
    have nn : n1 ≠ r1 := ne_of_none hn1A hr1
    generalize (upd H1 r1 (.lst (ts.map V.ref))) = H2 at hr1A hn2 sm02 htr2 ⊢
    clear sm1 sm2 hn1A hn1 hr1
    refine ⟨fun σ' H' => ∃ (na' ru' : Addr) (names' : List Str) (rs' : List Rule) (y5 y6 y7 y8 : Option V), σ' = [some (.ref na'), some (.ref ru'), some (.int way), some (.int at_), some (.int num), y5, y6, y7, y8] ∧ Same H H' ∧ H' na' = some (.lst (names'.map V.str)) ∧ TriosAt H' ru' rs' ∧ BdS (n + 1) names' rs', ?_, ?_⟩
    · have ixn : ∀ z : Int, 0 ≤ z % (names.length : Int) ∧ z % (names.length : Int) < names.length := fun z => ⟨Int.emod_nonneg z (by omega), Int.emod_lt_of_pos z (by omega)⟩
      have pick : ∀ z : Int, ∃ x, atI (names.map V.str) (z % (names.length : Int)) = some (.str x) ∧ x ∈ names := fun z => by
        obtain ⟨v, hv, hm⟩ := atI_some (xs := names.map V.str) (ixn z).1 (by rw [List.length_map]; exact (ixn z).2)
        obtain ⟨x, hx, rfl⟩ := List.mem_map.mp hm
        exact ⟨x, hv, hx⟩
      have keepR : ∀ H', Same H H' → H' r1 = some (.lst (ts.map V.ref)) → TriosAt H' r1 rs := fun H' sm h => ⟨ts, h, Paired.mapP htr fun _ _ h => TrioAt.same sm h⟩
      refine ⟨_, rfl, rfl, _, rfl, iteB (fun _ => ?_) (fun _ => ?_)⟩
      · -- another name
        refine ⟨_, rfl, num, rfl, fun x H3 hx sm3 => ?_⟩
        have hn3 := sm3 _ _ hn2
        refine ⟨_, rfl, _, rfl, _, rfl, n1, _, rfl, .inl (SqL.of hn3), _, _, rfl, rfl, by rw [List.length_map]; show (0 : Int) < names.length; omega, ?_⟩
        refine ⟨n1, _, _, (at_ % (names.length : Int)).toNat, rfl, rfl, hn3, by rw [List.length_map]; exact ixN_mod hnl, ?_⟩
        have smZ := same_mut (o := .lst ((names.map V.str).set (at_ % (names.length : Int)).toNat (.str x))) (sm02.trans sm3) hn10
        refine ⟨n1, r1, names.set (at_ % (names.length : Int)).toNat x, rs, _, _, _, _, rfl, smZ, by rw [upd_same, set_strs], keepR _ smZ (by rw [upd_ne nn.symm]; exact sm3 _ _ hr1A), by rw [List.length_set]; omega, fun y hy => ?_, by omega, fun r hr => ?_⟩
        · rcases List.mem_or_eq_of_mem_set hy with hy | rfl
          · have := bd2 y hy; omega
          · omega
        · have := bd4 r hr; omega
      refine ⟨_, rfl, rfl, _, rfl, iteB (fun _ => ?_) (fun _ => ?_)⟩
      · -- a name told twice
        obtain ⟨x, hx1, hx2⟩ := pick num
        have i0 := Int.emod_nonneg at_ (show ((names.length : Int) + 1) ≠ 0 by omega)
        have i1 := Int.emod_lt_of_pos at_ (show (0 : Int) < (names.length : Int) + 1 by omega)
        have el : (((names.map V.str).length : Nat) : Int) = (names.length : Int) := by rw [List.length_map]
        refine ⟨_, rfl, .inl ⟨rfl, _, SqL.of hn2⟩, _, rfl, _, rfl, n1, _, rfl, .inl (SqL.of hn2), _, _, rfl, rfl, _, _, rfl, rfl, by rw [el]; show (0 : Int) < (names.length : Int) + 1; omega, _, rfl, _, rfl, _, rfl, n1, _, rfl, .inl (SqL.of hn2), _, _, rfl, rfl, by rw [el]; show (0 : Int) < (names.length : Int); omega, n1, _, _, _, rfl, rfl, SqL.of hn2, by rw [el]; exact hx1, ?_⟩
        rw [el]
        refine ⟨n1, _, _, _, rfl, rfl, hn2, by rw [List.length_map]; exact sl1 (by omega), i0, Int.lt_trans i1 (by omega), ?_⟩
        have smZ := same_mut (o := .lst ((names.map V.str).take (at_ % ((names.length : Int) + 1)).toNat ++ [V.str x] ++ (names.map V.str).drop (at_ % ((names.length : Int) + 1)).toNat)) sm02 hn10
        refine ⟨n1, r1, names.take (at_ % ((names.length : Int) + 1)).toNat ++ [x] ++ names.drop (at_ % ((names.length : Int) + 1)).toNat, rs, _, _, _, _, rfl, smZ, by rw [upd_same, List.map_append, List.map_append, List.map_take, List.map_drop]; rfl, keepR _ smZ (by rw [upd_ne nn.symm]; exact hr1A), ?_, fun y hy => ?_, by omega, fun r hr => ?_⟩
        · rw [List.length_append, List.length_append, List.length_take, List.length_drop]
          show _ + 1 + _ ≤ _
          omega
        · rcases List.mem_append.mp hy with hy | hy
          · rcases List.mem_append.mp hy with hy | hy
            · have := bd2 y (List.mem_of_mem_take hy); omega
            · rw [List.mem_singleton.mp hy]
              have := bd2 x hx2; omega
          · have := bd2 y (List.mem_of_mem_drop hy); omega
        · have := bd4 r hr; omega
      refine ⟨_, rfl, rfl, _, rfl, iteB (fun _ => ?_) (fun _ => ?_)⟩
      · -- more names
        refine ⟨_, rfl, _, rfl, n1, rfl, ⟨_, SqL.of hn2⟩, fun D hD => lc_list (K := K) (a := n1) (xs := names.map V.str) (fun j H' => Same H2 H' ∧ H' D = some (.lst (((names.take j).map fun x => x ++ ("z" : Str)).map V.str))) ?_ ?_ ?_ ?_⟩
        · exact ⟨same_new hD, upd_same⟩
        · rintro j H' _ ⟨sm, _⟩
          exact SqL.of (sm _ _ hn2)
        · rintro j v H3 hj ⟨sm3, h3⟩
          obtain ⟨x, hx, rfl⟩ := map_at hj
          have hx20 := bd2 x (List.mem_of_getElem? hx)
          refine ⟨rfl, tyes (iteT ?_)⟩
          refine ⟨_, rfl, _, _, rfl, rfl, sl2 (by show x.length + 1 ≤ 1000000; omega), _, h3, by rw [List.length_map, List.length_map, List.length_take]; exact sl1 (by omega), same_mut sm3 hD, ?_⟩
          rw [upd_same, take_snoc hx, List.map_append, List.map_append]
          rfl
        rintro H3 ⟨sm3, h3⟩
        rw [List.length_map, List.take_length] at h3
        refine ⟨D, _, _, rfl, rfl, h3, by decide, by decide, by rw [List.length_map, List.length_map]; exact sl2 (by show names.length * 2 ≤ 1000000; omega), fun p1 hp1 => ?_⟩
        have sm4 := same_new hp1 (o := .lst (List.replicate (2 : Int).toNat ((names.map fun x => x ++ ("z" : Str)).map V.str)).flatten)
        have hp1A : (upd H3 p1 (.lst (List.replicate (2 : Int).toNat ((names.map fun x => x ++ ("z" : Str)).map V.str)).flatten)) p1 = some (.lst (((names.map fun x => x ++ ("z" : Str)) ++ (names.map fun x => x ++ ("z" : Str))).map V.str)) := by
          rw [upd_same, List.map_append]
          simp
        have hn4 := sm4 _ _ (sm3 _ _ hn2)
        have sm24 := sm3.trans sm4
        show _
        generalize (upd H3 p1 (.lst (List.replicate (2 : Int).toNat ((names.map fun x => x ++ ("z" : Str)).map V.str)).flatten)) = H4 at hp1A hn4 sm24 ⊢
        refine ⟨n1, p1, _, _, rfl, rfl, hn4, hp1A, by rw [List.length_map, List.length_map, List.length_append, List.length_map]; exact sl2 (by omega), fun p2 hp2 => ?_⟩
        have sm5 := same_new hp2 (o := .lst (names.map V.str ++ ((names.map fun x => x ++ ("z" : Str)) ++ (names.map fun x => x ++ ("z" : Str))).map V.str))
        have hp2A : (upd H4 p2 (.lst (names.map V.str ++ ((names.map fun x => x ++ ("z" : Str)) ++ (names.map fun x => x ++ ("z" : Str))).map V.str))) p2 = some (.lst ((names ++ ((names.map fun x => x ++ ("z" : Str)) ++ (names.map fun x => x ++ ("z" : Str)))).map V.str)) := by rw [upd_same, ← List.map_append]
        have sm25 := sm24.trans sm5
        generalize (upd H4 p2 (.lst (names.map V.str ++ ((names.map fun x => x ++ ("z" : Str)) ++ (names.map fun x => x ++ ("z" : Str))).map V.str))) = H5 at hp2A sm25 ⊢
        obtain ⟨more, hmore⟩ : ∃ more, more = names ++ ((names.map fun x => x ++ ("z" : Str)) ++ (names.map fun x => x ++ ("z" : Str))) := ⟨_, rfl⟩
        have hm20 : ∀ y ∈ more, y.length ≤ 21 + n := fun y hy => by
          rw [hmore] at hy
          have one : ∀ y ∈ names.map (fun x => x ++ ("z" : Str)), y.length ≤ 21 + n := fun y hy => by
            obtain ⟨x, hx, rfl⟩ := List.mem_map.mp hy
            have h1 := bd2 x hx
            rw [len_app]
            show x.length + 1 ≤ _
            omega
          rcases List.mem_append.mp hy with hy | hy
          · have := bd2 y hy; omega
          · rcases List.mem_append.mp hy with hy | hy
            · exact one y hy
            · exact one y hy
        rw [← hmore] at hp2A
        have m0 := Int.emod_nonneg num (show (2 : Int) ≠ 0 by decide)
        have m1 := Int.emod_lt_of_pos num (show (0 : Int) < 2 by decide)
        obtain ⟨c, hc⟩ : ∃ c : Nat, (6 : Int) + num % 2 = (c : Int) := ⟨(6 + num % 2).toNat, (Int.toNat_of_nonneg (by omega)).symm⟩
        refine ⟨_, rfl, _, rfl, _, _, rfl, rfl, lt0, _, _, rfl, rfl, _, rfl, p2, _, rfl, SqL.of hp2A, fun p3 hp3 => ?_⟩
        have sm6 := same_new hp3 (o := .lst (cutV (more.map V.str) none (some ((6 : Int) + num % 2))))
        have smZ := (sm02.trans sm25).trans sm6
        refine ⟨p3, r1, more.take c, rs, _, _, _, _, rfl, smZ, by rw [upd_same, hc, cut_lt, List.map_take], keepR _ smZ (sm6 _ _ (sm25 _ _ hr1A)), ?_, fun y hy => ?_, by omega, fun r hr => ?_⟩
        · rw [List.length_take]
          omega
        · have := hm20 y (List.mem_of_mem_take hy); omega
        · have := bd4 r hr; omega
      refine ⟨_, rfl, rfl, _, rfl, iteB (fun _ => ?_) (fun _ => ?_)⟩
      · -- one name less
        refine ⟨_, rfl, _, rfl, _, rfl, n1, _, rfl, SqL.of hn2, fun p3 hp3 => ?_⟩
        have sm6 := same_new hp3 (o := .lst (cutV (names.map V.str) none (some (-(1 : Int)))))
        have smZ := sm02.trans sm6
        obtain ⟨zs, hz1, hz2, hz3⟩ := cut_strs names none (some (-(1 : Int)))
        refine ⟨p3, r1, zs, rs, _, _, _, _, rfl, smZ, by rw [upd_same, hz1], keepR _ smZ (sm6 _ _ hr1A), by omega, fun y hy => ?_, by omega, fun r hr => ?_⟩
        · have := bd2 y (hz3 y hy); omega
        · have := bd4 r hr; omega
      -- a rule
      refine ⟨_, rfl, Nat.zero_le _, fun e he => ?_⟩
      have sm3 := same_new he (o := .lst [])
      have htr3 := Paired.mapP htr2 fun _ _ h => TrioAt.same sm3 h
      refine ⟨eL eTrio rs, eL eTrio [], dp_trios ⟨ts, sm3 _ _ hr1A, htr3⟩, .lst (SqL.of upd_same) .nil, Nat.le_trans (dep_L dep_Trio _) (by decide), _, rfl, ?_⟩
      rw [enc_L enc_Trio]
      have hn3 := sm3 _ _ hn2
      have hr3 := sm3 _ _ hr1A
      have sm03 := sm02.trans sm3
      generalize (upd H2 e (.lst [])) = H3 at sm03 hn3 hr3 htr3 ⊢
      clear sm3 htr2 hr1A hn2
      by_cases c0 : rs = []
      · rw [decide_eq_true c0]
        exact iteF ⟨n1, r1, names, rs, _, _, _, _, rfl, sm03, hn3, keepR _ sm03 hr3, bd.up⟩
      rw [decide_eq_false c0]
      refine iteT ?_
      have hrl : 0 < rs.length := List.length_pos_iff.mpr c0
      have ixr : ∀ z : Int, 0 ≤ z % (rs.length : Int) ∧ z % (rs.length : Int) < rs.length := fun z => ⟨Int.emod_nonneg z (by omega), Int.emod_lt_of_pos z (by omega)⟩
      have el : (((ts.map V.ref).length : Nat) : Int) = (rs.length : Int) := by rw [List.length_map, htl]
      obtain ⟨v, hv, hvm⟩ := atI_some (xs := ts.map V.ref) (ixr at_).1 (by rw [el]; exact (ixr at_).2)
      obtain ⟨t0, ht0, rfl⟩ := List.mem_map.mp hvm
      obtain ⟨r, hrm, w0, hw1, hw2⟩ := paired_has htr3 ht0
      have hr20 := bd4 r (hrm)
      refine ⟨_, rfl, _, rfl, _, rfl, r1, _, rfl, .inl (SqL.of hr3), _, _, rfl, rfl, by rw [el]; show (0 : Int) < (rs.length : Int); omega, r1, _, _, _, rfl, rfl, SqL.of hr3, by rw [el]; exact hv, t0, _, rfl, SqT.of hw1, rfl, _, _, rfl, _, _, rfl, _, _, rfl, rfl, ?_⟩
      have hadd : r.1.length + ("q" : Str).length ≤ sizeLine := sl2 (by show r.1.length + 1 ≤ 1000000; omega)
      have cc0 : Car H3 H3 w0 r.2.2 [] [] [] := ⟨Same.refl _, fun p hp => (nomatch hp), hw2, .nil⟩
      refine ⟨_, rfl, _, rfl, sl2 (by show 3 ≤ 1000000; decide), fun t1 ht1 => ?_⟩
      have c1 := cc0.put (a := "") (b := r.2.1) (rw := r.2.2) ht1 cc0.row
      refine ⟨_, rfl, _, _, rfl, rfl, hadd, _, rfl, _, rfl, sl2 (by show 3 ≤ 1000000; decide), fun t2 ht2 => ?_⟩
      have c2 := c1.put (a := r.1 ++ "q") (b := r.2.1) (rw := r.2.2) ht2 c1.row
      refine ⟨_, rfl, _, rfl, sl2 (by show 3 ≤ 1000000; decide), fun t3 ht3 => ?_⟩
      have c3 := c2.put (a := r.1) (b := "") (rw := r.2.2) ht3 c2.row
      refine ⟨_, rfl, _, rfl, sl2 (by show 3 ≤ 1000000; decide), fun t4 ht4 => ?_⟩
      have c4 := c3.put (a := r.1) (b := "ab") (rw := r.2.2) ht4 c3.row
      refine ⟨_, rfl, _, rfl, sl2 (by show 3 ≤ 1000000; decide), fun t5 ht5 => ?_⟩
      have c5 := c4.put (a := r.1) (b := "A") (rw := r.2.2) ht5 c4.row
      refine ⟨sl2 (by show 5 ≤ 1000000; decide), fun l1 hl1 => ?_⟩
      have c5a := c5.new (o := .lst ([t1, t2, t3, t4, t5].map V.ref)) hl1
      refine ⟨_, rfl, _, rfl, _, rfl, sl2 (by show 3 ≤ 1000000; decide), fun t6 ht6 => ?_⟩
      have c6 := c5a.put (a := r.1) (b := " ") (rw := r.2.2) ht6 c5a.row
      refine ⟨_, rfl, _, rfl, sl2 (by show 3 ≤ 1000000; decide), fun t7 ht7 => ?_⟩
      have c7 := c6.put (a := r.1) (b := "1") (rw := r.2.2) ht7 c6.row
      refine ⟨_, rfl, _, rfl, _, rfl, _, rfl, _, _, rfl, rfl, hadd, sl2 (by show 1 ≤ 1000000; decide), fun l2 hl2 => ?_⟩
      have c7a := c7.new (o := .lst ([r.1 ++ "q"].map V.str)) hl2
      have hl2A := c7a.held _ List.mem_cons_self
      refine ⟨w0, l2, _, _, rfl, rfl, c7a.row, hl2A, by rw [List.length_map, List.length_map]; exact sl2 (by show _ + 1 ≤ _; omega), fun l3 hl3 => ?_⟩
      have c7b := c7a.new (o := .lst (r.2.2.map V.str ++ [r.1 ++ "q"].map V.str)) hl3
      have hl3A := c7b.held _ List.mem_cons_self
      refine ⟨sl2 (by show 3 ≤ 1000000; decide), fun t8 ht8 => ?_⟩
      have c8 := c7b.put (a := r.1) (b := r.2.1) (rw := r.2.2 ++ [r.1 ++ "q"]) ht8 (hl3A.trans (congrArg (fun z => some (HO.lst z)) List.map_append.symm))
      refine ⟨_, rfl, _, rfl, sl2 (by show 1 ≤ 1000000; decide), fun l4 hl4 => ?_⟩
      have c8a := c8.new (o := .lst ([("" : Str)].map V.str)) hl4
      have hl4A := c8a.held _ List.mem_cons_self
      refine ⟨sl2 (by show 3 ≤ 1000000; decide), fun t9 ht9 => ?_⟩
      have c9 := c8a.put (a := r.1) (b := r.2.1) (rw := [""]) ht9 hl4A
      refine ⟨sl2 (by show 4 ≤ 1000000; decide), fun l5 hl5 => ?_⟩
      have c9a := c9.new (o := .lst ([t6, t7, t8, t9].map V.ref)) hl5
      refine ⟨l1, l5, _, _, rfl, rfl, c9a.held (l1, .lst ([t1, t2, t3, t4, t5].map V.ref)) (by simp), c9a.held _ List.mem_cons_self, sl2 (by show 5 + 4 ≤ 1000000; decide), fun l6 hl6 => ?_⟩
      have c9b := c9a.new (o := .lst ([t1, t2, t3, t4, t5].map V.ref ++ [t6, t7, t8, t9].map V.ref)) hl6
      refine ⟨_, rfl, _, rfl, _, rfl, _, rfl, sl2 (by show 1 ≤ 1000000; decide), fun l7 hl7 => ?_⟩
      have c9c := c9b.new (o := .lst ([r.1].map V.str)) hl7
      refine ⟨l7, _, _, rfl, rfl, c9c.held _ List.mem_cons_self, by decide, by decide, sl2 (by show 1 * 4 ≤ 1000000; decide), fun l8 hl8 => ?_⟩
      have c9d := c9c.new (o := .lst (List.replicate (4 : Int).toNat ([r.1].map V.str)).flatten) hl8
      have hl8A := c9d.held _ List.mem_cons_self
      refine ⟨sl2 (by show 3 ≤ 1000000; decide), fun t10 ht10 => ?_⟩
      have c10 := c9d.put (a := r.1) (b := r.2.1) (rw := [r.1, r.1, r.1, r.1]) ht10 hl8A
      refine ⟨_, rfl, _, rfl, _, rfl, sl2 (by show 1 ≤ 1000000; decide), fun l9 hl9 => ?_⟩
      have c10a := c10.new (o := .lst ([r.1].map V.str)) hl9
      refine ⟨l9, _, _, rfl, rfl, c10a.held _ List.mem_cons_self, by decide, by decide, sl2 (by show 1 * 3 ≤ 1000000; decide), fun l10 hl10 => ?_⟩
      have c10b := c10a.new (o := .lst (List.replicate (3 : Int).toNat ([r.1].map V.str)).flatten) hl10
      have hl10A := c10b.held _ List.mem_cons_self
      refine ⟨sl2 (by show 3 ≤ 1000000; decide), fun t11 ht11 => ?_⟩
      have c11 := c10b.put (a := r.1) (b := r.2.1) (rw := [r.1, r.1, r.1]) ht11 hl10A
      refine ⟨_, rfl, _, rfl, _, rfl, sl2 (by show 3 ≤ 1000000; decide), fun t12 ht12 => ?_⟩
      have c12 := c11.put (a := r.1) (b := r.2.1) (rw := r.2.2) ht12 c11.row
      refine ⟨_, rfl, _, rfl, sl2 (by show 3 ≤ 1000000; decide), fun t13 ht13 => ?_⟩
      have c13 := c12.put (a := r.1) (b := "q") (rw := r.2.2) ht13 c12.row
      refine ⟨sl2 (by show 4 ≤ 1000000; decide), fun l11 hl11 => ?_⟩
      have c13a := c13.new (o := .lst ([t10, t11, t12, t13].map V.ref)) hl11
      refine ⟨l6, l11, _, _, rfl, rfl, c13a.held (l6, .lst ([t1, t2, t3, t4, t5].map V.ref ++ [t6, t7, t8, t9].map V.ref)) (by simp), c13a.held _ List.mem_cons_self, sl2 (by show 9 + 4 ≤ 1000000; decide), fun l12 hl12 => ?_⟩
      have c14 := c13a.new (o := .lst (([t1, t2, t3, t4, t5].map V.ref ++ [t6, t7, t8, t9].map V.ref) ++ [t10, t11, t12, t13].map V.ref)) hl12
      generalize hHE : upd _ l12 _ = HE
      have sm3E : Same H3 HE := by rw [← hHE]; exact c14.sm
      have hl12A : HE l12 = some (.lst (([t1, t2, t3, t4, t5].map V.ref ++ [t6, t7, t8, t9].map V.ref) ++ [t10, t11, t12, t13].map V.ref)) := by rw [← hHE]; exact c14.held _ List.mem_cons_self
      have prsE : Paired (TrioAt HE) [t1, t2, t3, t4, t5, t6, t7, t8, t9, t10, t11, t12, t13] [("", r.2.1, r.2.2), (r.1 ++ "q", r.2.1, r.2.2), (r.1, "", r.2.2), (r.1, "ab", r.2.2), (r.1, "A", r.2.2), (r.1, " ", r.2.2), (r.1, "1", r.2.2), (r.1, r.2.1, r.2.2 ++ [r.1 ++ "q"]), (r.1, r.2.1, [""]), (r.1, r.2.1, [r.1, r.1, r.1, r.1]), (r.1, r.2.1, [r.1, r.1, r.1]), (r.1, r.2.1, r.2.2), (r.1, "q", r.2.2)] := by rw [← hHE]; exact c14.prs
      clear hHE c14 c13a c13 c12 c11 c10b c10a c10 c9d c9c c9b c9a c9 c8a c8 c7b c7a c7 c6 c5a c5 c4 c3 c2 c1 cc0
      have eL13 : ([t1, t2, t3, t4, t5].map V.ref ++ [t6, t7, t8, t9].map V.ref) ++ [t10, t11, t12, t13].map V.ref = [t1, t2, t3, t4, t5, t6, t7, t8, t9, t10, t11, t12, t13].map V.ref := rfl
      have prsF := prsE
      have hbd : ∀ r' ∈ [(("" : Str), r.2.1, r.2.2), (r.1 ++ "q", r.2.1, r.2.2), (r.1, "", r.2.2), (r.1, "ab", r.2.2), (r.1, "A", r.2.2), (r.1, " ", r.2.2), (r.1, "1", r.2.2), (r.1, r.2.1, r.2.2 ++ [r.1 ++ "q"]), (r.1, r.2.1, [""]), (r.1, r.2.1, [r.1, r.1, r.1, r.1]), (r.1, r.2.1, [r.1, r.1, r.1]), (r.1, r.2.1, r.2.2), (r.1, "q", r.2.2)], r'.1.length ≤ 21 + n ∧ r'.2.1.length ≤ 10 ∧ r'.2.2.length ≤ 5 + n := fun r' hr' => by
        have l0 : ("" : Str).length = 0 := by decide +kernel
        have l1 : ("q" : Str).length = 1 := by decide +kernel
        have l2 : ("ab" : Str).length = 2 := by decide +kernel
        have l3 : ("A" : Str).length = 1 := by decide +kernel
        have l4 : (" " : Str).length = 1 := by decide +kernel
        have l5 : ("1" : Str).length = 1 := by decide +kernel
        have l6 := len_app r.1 "q"
        obtain ⟨g1, g2, g3⟩ := hr20
        rcases List.mem_cons.mp hr' with rfl | hr'
        · exact ⟨by show ("" : Str).length ≤ _; omega, by show r.2.1.length ≤ _; omega, by show r.2.2.length ≤ _; omega⟩
        rcases List.mem_cons.mp hr' with rfl | hr'
        · exact ⟨by show (r.1 ++ ("q" : Str)).length ≤ _; omega, by show r.2.1.length ≤ _; omega, by show r.2.2.length ≤ _; omega⟩
        rcases List.mem_cons.mp hr' with rfl | hr'
        · exact ⟨by show r.1.length ≤ _; omega, by show ("" : Str).length ≤ _; omega, by show r.2.2.length ≤ _; omega⟩
        rcases List.mem_cons.mp hr' with rfl | hr'
        · exact ⟨by show r.1.length ≤ _; omega, by show ("ab" : Str).length ≤ _; omega, by show r.2.2.length ≤ _; omega⟩
        rcases List.mem_cons.mp hr' with rfl | hr'
        · exact ⟨by show r.1.length ≤ _; omega, by show ("A" : Str).length ≤ _; omega, by show r.2.2.length ≤ _; omega⟩
        rcases List.mem_cons.mp hr' with rfl | hr'
        · exact ⟨by show r.1.length ≤ _; omega, by show (" " : Str).length ≤ _; omega, by show r.2.2.length ≤ _; omega⟩
        rcases List.mem_cons.mp hr' with rfl | hr'
        · exact ⟨by show r.1.length ≤ _; omega, by show ("1" : Str).length ≤ _; omega, by show r.2.2.length ≤ _; omega⟩
        rcases List.mem_cons.mp hr' with rfl | hr'
        · exact ⟨by show r.1.length ≤ _; omega, by show r.2.1.length ≤ _; omega, by show (r.2.2 ++ [r.1 ++ ("q" : Str)]).length ≤ _; rw [List.length_append]; show _ + 1 ≤ _; omega⟩
        rcases List.mem_cons.mp hr' with rfl | hr'
        · exact ⟨by show r.1.length ≤ _; omega, by show r.2.1.length ≤ _; omega, by show 1 ≤ _; omega⟩
        rcases List.mem_cons.mp hr' with rfl | hr'
        · exact ⟨by show r.1.length ≤ _; omega, by show r.2.1.length ≤ _; omega, by show 4 ≤ _; omega⟩
        rcases List.mem_cons.mp hr' with rfl | hr'
        · exact ⟨by show r.1.length ≤ _; omega, by show r.2.1.length ≤ _; omega, by show 3 ≤ _; omega⟩
        rcases List.mem_cons.mp hr' with rfl | hr'
        · exact ⟨by show r.1.length ≤ _; omega, by show r.2.1.length ≤ _; omega, by show r.2.2.length ≤ _; omega⟩
        rw [List.mem_singleton.mp hr']
        exact ⟨by show r.1.length ≤ _; omega, by show ("q" : Str).length ≤ _; omega, by show r.2.2.length ≤ _; omega⟩
      clear prsE
      rw [eL13] at hl12A
      generalize hts13 : [t1, t2, t3, t4, t5, t6, t7, t8, t9, t10, t11, t12, t13] = t13s at hl12A prsF
      have hl13 : t13s.length = 13 := by rw [← hts13]; rfl
      generalize [(("" : Str), r.2.1, r.2.2), (r.1 ++ "q", r.2.1, r.2.2), (r.1, "", r.2.2), (r.1, "ab", r.2.2), (r.1, "A", r.2.2), (r.1, " ", r.2.2), (r.1, "1", r.2.2), (r.1, r.2.1, r.2.2 ++ [r.1 ++ "q"]), (r.1, r.2.1, [""]), (r.1, r.2.1, [r.1, r.1, r.1, r.1]), (r.1, r.2.1, [r.1, r.1, r.1]), (r.1, r.2.1, r.2.2), (r.1, "q", r.2.2)] = r13s at prsF hbd
      have hr3E := sm3E _ _ hr3
      have hn3E := sm3E _ _ hn3
      have sm0E := sm03.trans sm3E
      have htrE := Paired.mapP htr3 fun _ _ h => TrioAt.same sm3E h
      have hts0 : ts ≠ [] := fun h0 => c0 (List.length_eq_zero_iff.mp (by rw [← htl, h0]; rfl))
      clear ht1 ht2 ht3 ht4 ht5 ht6 ht7 ht8 ht9 ht10 ht11 ht12 ht13 hl1 hl2 hl3 hl4 hl5 hl6 hl7 hl8 hl9 hl10 hl11 hl12 hl2A hl3A hl4A hl8A hl10A
      have m0 := Int.emod_nonneg num (show (13 : Int) ≠ 0 by decide)
      have m1 := Int.emod_lt_of_pos num (show (0 : Int) < 13 by decide)
      obtain ⟨v2, hv2, hv2m⟩ := atI_some (xs := t13s.map V.ref) m0 (by rw [List.length_map, hl13]; exact m1)
      obtain ⟨tz, htz, rfl⟩ := List.mem_map.mp hv2m
      obtain ⟨rz, hrz, hTz⟩ := paired_has prsF htz
      obtain ⟨b1, b2, b3⟩ := hbd rz hrz
      refine ⟨_, rfl, rfl, _, rfl, iteB (fun _ => ?_) (fun _ => ?_)⟩
      · refine ⟨_, rfl, _, rfl, _, _, rfl, rfl, lt0, l12, _, _, _, rfl, rfl, SqL.of hl12A, hv2, ?_⟩
        refine ⟨_, rfl, _, rfl, _, rfl, r1, _, rfl, .inl (SqL.of hr3E), _, _, rfl, rfl, by rw [el]; show (0 : Int) < (rs.length : Int); omega, ?_⟩
        refine ⟨r1, _, _, (at_ % (rs.length : Int)).toNat, rfl, rfl, hr3E, by rw [el, List.length_map, htl]; exact ixN_mod hrl, ?_⟩
        have smZ := same_mut (o := .lst ((ts.map V.ref).set (at_ % (rs.length : Int)).toNat (.ref tz))) sm0E hr10
        refine ⟨n1, r1, names, rs.set (at_ % (rs.length : Int)).toNat rz, _, _, _, _, rfl, smZ, by rw [upd_ne nn]; exact hn3E, ⟨ts.set (at_ % (rs.length : Int)).toNat tz, by rw [upd_same, List.map_set], paired_set (Paired.mapP htrE fun _ _ h => trio_upd hr3E hts0 h) (trio_upd hr3E hts0 hTz)⟩, by omega, fun y hy => ?_, by rw [List.length_set]; omega, fun r hr => ?_⟩
        · have := bd2 y hy; omega
        · rcases List.mem_or_eq_of_mem_set hr with hr | rfl
          · have := bd4 r hr; omega
          · omega
      · have q0 : 0 ≤ num / 13 := Int.ediv_nonneg hnum (by decide)
        have i0 := Int.emod_nonneg ((num / 13)) (show ((rs.length : Int) + 1) ≠ 0 by omega)
        have i1 := Int.emod_lt_of_pos ((num / 13)) (show (0 : Int) < (rs.length : Int) + 1 by omega)
        refine ⟨_, rfl, .inl ⟨rfl, _, SqL.of hr3E⟩, _, rfl, _, _, rfl, rfl, ⟨by decide, by decide⟩, _, rfl, r1, _, rfl, .inl (SqL.of hr3E), _, _, rfl, rfl, _, _, rfl, rfl, by rw [el]; show (0 : Int) < (rs.length : Int) + 1; omega, _, rfl, _, rfl, _, _, rfl, rfl, lt0, l12, _, _, _, rfl, rfl, SqL.of hl12A, hv2, ?_⟩
        rw [el]
        refine ⟨r1, _, _, _, rfl, rfl, hr3E, by rw [List.length_map, htl]; exact sl1 (by omega), i0, Int.lt_trans i1 (by omega), ?_⟩
        have smZ := same_mut (o := .lst ((ts.map V.ref).take (num / 13 % ((rs.length : Int) + 1)).toNat ++ [V.ref tz] ++ (ts.map V.ref).drop (num / 13 % ((rs.length : Int) + 1)).toNat)) sm0E hr10
        have tk : ∀ t r, TrioAt HE t r → TrioAt (upd HE r1 (.lst ((ts.map V.ref).take (num / 13 % ((rs.length : Int) + 1)).toNat ++ [V.ref tz] ++ (ts.map V.ref).drop (num / 13 % ((rs.length : Int) + 1)).toNat))) t r := fun t r h => trio_upd hr3E hts0 h
        have htrZ := Paired.mapP htrE tk
        refine ⟨n1, r1, names, rs.take (num / 13 % ((rs.length : Int) + 1)).toNat ++ [rz] ++ rs.drop (num / 13 % ((rs.length : Int) + 1)).toNat, _, _, _, _, rfl, smZ, by rw [upd_ne nn]; exact hn3E, ⟨ts.take (num / 13 % ((rs.length : Int) + 1)).toNat ++ [tz] ++ ts.drop (num / 13 % ((rs.length : Int) + 1)).toNat, by rw [upd_same, List.map_append, List.map_append, List.map_take, List.map_drop]; rfl, paired_cat (paired_cat (paired_take htrZ _) (.cons (tk _ _ hTz) .nil)) (paired_drop htrZ _)⟩, by omega, fun y hy => ?_, ?_, fun r hr => ?_⟩
        · have := bd2 y hy; omega
        · rw [List.length_append, List.length_append, List.length_take, List.length_drop]
          show _ + 1 + _ ≤ _
          omega
        · rcases List.mem_append.mp hr with hr | hr
          · rcases List.mem_append.mp hr with hr | hr
            · have := bd4 r (List.mem_of_mem_take hr); omega
            · rw [List.mem_singleton.mp hr]
              omega
          · have := bd4 r (List.mem_of_mem_drop hr); omega
    · rintro σ' H3 ⟨na', ru', names', rs', y5, y6, y7, y8, rfl, a, b, c, d⟩
      refine ⟨_, rfl, _, rfl, sl2 (by show 2 ≤ 1000000; decide), fun p hp => ?_⟩
      have sm := same_new hp (o := .tup [.ref na', .ref ru'])
      exact q p na' ru' names' rs' _ (a.trans sm) upd_same (sm _ _ b) (c.same sm) d
end
end SG
namespace SG
open PySem PySem.Spec PyProof.Rows L2
section
variable {P : Program} {w : World} {K : PySem.W.Frag} {mg : Str → Option Value} {base : Heap} {A : Ad}
theorem dueG_inv {names : List Str} {rs : List Rule} (h : dueG names rs = none) : areNames names = true ∧ rulesOk names rs := by
  unfold dueG at h
  split at h
  · rename_i ha
    refine ⟨ha, fun i r hr => ?_⟩
    have h1 := Option.map_eq_none_iff.mp h
    have h2 := List.find?_eq_none.mp h1 i (List.mem_range.mpr (List.getElem?_eq_some_iff.mp hr).1)
    rw [hr] at h2
    simpa using h2
  · cases h
def sp_told : Sp := fun vs H Q _ => ∃ (na ru : Addr) (names : List Str) (rs : List Rule), vs = [.ref na, .ref ru] ∧ H na = some (.lst (names.map V.str)) ∧ TriosAt H ru rs ∧ names.length ≤ 1000 ∧ (∀ x ∈ names, x.length ≤ 1000000) ∧ rs.length ≤ 100 ∧ (∀ r ∈ rs, r.2.1.length ≤ 1000000 ∧ r.2.2.length ≤ 1000) ∧
  (∀ p n r H', dueG names rs = none → Same H H' → H' p = some (.tup [.str "told", .ref n, .ref r]) → H' n = some (.lst (names.map V.str)) → TriosAt H' r rs → Q (.ref p) H') ∧
  ∀ p k H', dueG names rs = some k → Same H H' → H' p = some (.tup [.str "refused", .int k]) → Q (.ref p) H'
theorem ok__law_told (T : Txt K mg A) : FnOk P w K mg base CX0 6 A.a__law_told A.d__law_told ["_law_names", "_law_rules"] sp_told := by
  have G_Grammar___init__ : FnOk P w K mg base (L2.CX P w) 4 A.a_Grammar___init__ A.d_Grammar___init__ ["self", "names", "rules"] (sp_G_initX K A.c_Grammar A.c_NoGrammar) := ok_Grammar___init__ T
  have G_Grammar_names : FnOk P w K mg base CX0 1 A.a_Grammar_names A.d_Grammar_names ["self"] (sp_G_names A.c_Grammar) := ok_Grammar_names T
  have G_Grammar_rules : FnOk P w K mg base CX0 1 A.a_Grammar_rules A.d_Grammar_rules ["self"] (sp_G_rules A.c_Grammar) := ok_Grammar_rules T
  refine T.F__law_told.ok sc__law_told (fun vs H Q E h => ?_) (fun cdv A0 outer s0 H vs Q E hr h => ?_)
  · obtain ⟨_, _, _, _, rfl, _⟩ := h
    rfl
  · obtain ⟨na, ru, names, rs, rfl, hna, htr, hnl, hnx, hrl, hrx, q1, q2⟩ := h
    have hu64 := hu64_of hr
    refine ⟨_, (pss_cons (ps_try_as (i := 3) (Wout := fun _ _ _ _ => False) rfl rfl sc__law_told.nd rfl rfl ⟨rfl, by decide, Or.inl T.g_GoError⟩ takes0 (fun W pn xe tk _ => (pss_one (ps_set (i := 2) sc__law_told.nd rfl (Or.inl rfl) (pe_makeX T.mk_Grammar G_Grammar___init__ (hr.mono (by decide)) (by rfl) T.g_Grammar T.b_Grammar___init__ (fun σ => passAt tk σ) (pa_cons (pv 0) (pa_cons (pv 1) pa_nil)))))) (fun a oe cls d pn hz hf => (pss_cons (ps_set (i := 4) sc__law_told.nd rfl (Or.inl rfl) (pe_callB (id := "isinstance") (r := rIsDT K a cls d) (call_isDT hz hf) (by rfl) T.isinstance (by decide +kernel) (pa_cons (pv 3) (pa_cons (pe_tup (pa_cons (pe_glob (v := .ref A.c_NoText) (by rfl) T.g_NoText rfl) (pa_cons (pe_glob (v := .ref A.c_NoName) (by rfl) T.g_NoName rfl) (pa_cons (pe_glob (v := .ref A.c_Endless) (by rfl) T.g_Endless rfl) (pa_cons (pe_glob (v := .ref A.c_TooLarge) (by rfl) T.g_TooLarge rfl) (pa_cons (pe_glob (v := .ref A.c_NotSimple) (by rfl) T.g_NotSimple rfl) (pa_cons (pe_glob (v := .ref A.c_Taken) (by rfl) T.g_Taken rfl) (pa_cons (pe_glob (v := .ref A.c_InUse) (by rfl) T.g_InUse rfl) (pa_cons (pe_glob (v := .ref A.c_NoRule) (by rfl) T.g_NoRule rfl) (pa_cons (pe_glob (v := .ref A.c_Nothing) (by rfl) T.g_Nothing rfl) pa_nil)))))))))) pa_nil))))
 (pss_cons (ps_if (PW.pt (pw_and (pt_val (pe_callB (id := "isinstance") (r := rIsD K a cls d) (call_isD hz hf) (by rfl) T.isinstance (by decide +kernel) (pa_cons (pv 3) (pa_cons (pe_glob (v := .ref A.c_NoGrammar) (by rfl) T.g_NoGrammar rfl) pa_nil)))) (pw_and (pt_val (pe_callB (id := "isinstance") (r := rIsD K a cls d) (call_isD hz hf) (by rfl) T.isinstance (by decide +kernel) (pa_cons (pv 3) (pa_cons (pe_bltn (v := .ty "ValueError") (by rfl) T.ValueError (by decide +kernel) rfl) pa_nil)))) (pw_and1 (pt_not (pt_val (pv 4))))))) (pss_one (ps_ret (pe_tup (pa_cons pe_str (pa_cons (pe_exf hz hf (pv 3)) pa_nil))))) pss_nil)
 (pss_one (ps_ret (pe_tup (pa_cons pe_str pa_nil))))))))
 (pss_one (ps_ret (pe_tup (pa_cons pe_str (pa_cons (pe_meth0 (pv 2) T.cl_Grammar T.m_Grammar_names G_Grammar_names (hr.mono (by decide)) T.b_Grammar_names .nil pass0) (pa_cons (pe_meth0 (pv 2) T.cl_Grammar T.m_Grammar_rules G_Grammar_rules (hr.mono (by decide)) T.b_Grammar_rules .nil pass0) pa_nil))))))), ?_⟩
    refine ⟨_, rfl, _, rfl, ?_⟩
    intro g dx hg hdx ndg
    have smg : Same H (upd (upd H dx (.own g)) g (.ins A.c_Grammar dx [])) := (same_new hdx).trans (same_new (by rw [upd_ne ndg.symm]; exact hg))
    refine ⟨g, dx, na, ru, names, rs, rfl, upd_same, smg _ _ hna, hnl, hnx, htr.same smg, hrl, hrx, fun hd ha H7 kp7 hB => ⟨rfl, ?_⟩, fun k hk d H7 kp7 hd0 hd7 => ?_⟩
    · obtain ⟨dx', kn, st, od, ls, hB⟩ := hB
      have sm7 : Same H H7 := fun b o h => kp7 b o (smg _ _ h) (ne_of_none h hg)
      have G : GramAt A.c_Grammar H7 g names rs := hB.keep fun a o h _ => h
      obtain ⟨dx2, kn2, st2, od2, hi2⟩ := G.ins
      have hin : ∀ r ∈ rs, r.1 ∈ names := fun r hr => by
        obtain ⟨i, hi⟩ := List.mem_iff_getElem?.mp hr
        exact (letsBy_iff.mp ((dueG_inv hd).2 i r hi)).1
      refine ⟨_, rfl, g, _, _, rfl, hi2, gfs_no _ _ _ (by decide +kernel) (by decide +kernel) (by decide +kernel), g, names, rs, rfl, G, fun p H11 hp sm11 h11 => ?_⟩
      refine ⟨_, rfl, g, _, _, rfl, sm11 _ _ hi2, gfs_no _ _ _ (by decide +kernel) (by decide +kernel) (by decide +kernel), g, names, rs, rfl, G.same sm11, hin, by omega, fun p2 H12 nt => ?_⟩
      refine ⟨sl2 (by show 3 ≤ 1000000; decide), fun z hz => ?_⟩
      have smz := same_new hz (o := .tup [.str "told", .ref p, .ref p2])
      exact q1 z p p2 _ hd (((sm7.trans sm11).trans nt.2.1).trans smz) upd_same (smz _ _ (nt.2.1 _ _ h11)) (nt.at_.same smz)
    · have sm7 : Same H H7 := fun b o h => kp7 b o (smg _ _ h) (ne_of_none h hg)
      refine ⟨true, T.xm_NoGrammar, fun _ a ha => ?_, fun z => nomatch z⟩
      refine ⟨_, rfl, sl2 (by show 9 ≤ 1000000; decide), fun tp htp => ?_⟩
      have smt := same_new htp (o := .tup [.ref A.c_NoText, .ref A.c_NoName, .ref A.c_Endless, .ref A.c_TooLarge, .ref A.c_NotSimple, .ref A.c_Taken, .ref A.c_InUse, .ref A.c_NoRule, .ref A.c_Nothing])
      refine ⟨A.c_NoGrammar, d, tp, _, _, [.ref A.c_NoText, .ref A.c_NoName, .ref A.c_Endless, .ref A.c_TooLarge, .ref A.c_NotSimple, .ref A.c_Taken, .ref A.c_InUse, .ref A.c_NoRule, .ref A.c_Nothing], false, rfl, rfl, T.xd_NoGrammar, smt _ _ hd7, rfl, upd_same, .cons (.own _) (.cons (.own _) (.cons (.own _) (.cons (.own _) (.cons (.own _) (.cons (.own _) (.cons (.own _) (.cons (.own _) (.cons (.own _) .nil)))))))), ?_, ?_⟩
      · simp only [PySem.W.kitAny, T.ki_NoGrammar_NoText, T.ki_NoGrammar_NoName, T.ki_NoGrammar_Endless, T.ki_NoGrammar_TooLarge, T.ki_NoGrammar_NotSimple, T.ki_NoGrammar_Taken, T.ki_NoGrammar_InUse, T.ki_NoGrammar_NoRule, T.ki_NoGrammar_Nothing]
      have hd8 := smt _ _ hd7
      have sm8 := sm7.trans smt
      generalize upd H7 tp _ = H8 at hd8 sm8 ⊢
      refine ⟨_, rfl, A.c_NoGrammar, d, _, _, _, true, rfl, rfl, T.xd_NoGrammar, hd8, rfl, .own _, T.ki_NoGrammar_NoGrammar, _, rfl, iteT ?_⟩
      refine ⟨_, rfl, A.c_NoGrammar, d, _, _, _, true, rfl, rfl, T.xd_NoGrammar, hd8, rfl, .ty _, T.ki_NoGrammar_ValueError, _, rfl, iteT ?_⟩
      refine ⟨_, rfl, _, rfl, iteT ?_⟩
      refine ⟨_, rfl, rfl, A.c_NoGrammar, d, _, _, rfl, rfl, T.xd_NoGrammar, T.nx_NoGrammar_at, hd8, rfl, sl2 (by show 2 ≤ 1000000; decide), fun z hz => ?_⟩
      have smz := same_new hz (o := .tup [.str "refused", .int k])
      exact q2 z k _ hk (sm8.trans smz) upd_same
end
end SG
namespace SG
open PySem PySem.Spec PyProof.Rows L2
section
variable {P : Program} {w : World} {K : PySem.W.Frag} {mg : Str → Option Value} {base : Heap} {A : Ad}
def sp_law (K : PySem.W.Frag) : Sp := fun vs H Q _ => ∃ (a : Addr) (ns : List Int), vs = [.ref a] ∧ SqL K H a (ns.map V.int) ∧ ns.length ≤ 63 ∧ ∀ H', Q (.bl true) H'
theorem iteTB {b : Bool} {A B : Prop} (hb : b = true) (h : A) : if b = true then A else B := by rw [if_pos hb]; exact h
theorem iteFB {b : Bool} {A B : Prop} (hb : b = false) (h : B) : if b = true then A else B := by rw [hb]; exact iteF h
theorem dig_at {zs : List Int} {i : Int} (d : Digs zs) (h0 : 0 ≤ i) (h1 : i < zs.length) : ∃ x : Int, atI (zs.map V.int) i = some (.int x) ∧ 0 ≤ x ∧ x < 1009 := by
  obtain ⟨v, hv, hm⟩ := atI_some (xs := zs.map V.int) h0 (by rw [List.length_map]; exact h1)
  obtain ⟨x, hx, rfl⟩ := List.mem_map.mp hm
  exact ⟨x, hv, d x hx⟩
theorem ok_law {f : Addr} {fd : FuncData} (F : Fun K "law" "law" s_law f fd) (T : Txt K mg A) : FnOk P w K mg base CX0 7 f fd ["_law_script"] (sp_law K) := by
  have G__law_digits : FnOk P w K mg base CX0 1 A.a__law_digits A.d__law_digits ["_law_cell_here", "_law_many"] sp_digits := ok__law_digits T
  have G__law_built : FnOk P w K mg base CX0 3 A.a__law_built A.d__law_built ["_law_cell_here", "_law_many"] sp_built := ok__law_built T
  have G__law_spoilt : FnOk P w K mg base CX0 2 A.a__law_spoilt A.d__law_spoilt ["_law_names", "_law_rules", "_law_way", "_law_at", "_law_number"] sp_spoilt := ok__law_spoilt T
  have G__law_due : FnOk P w K mg base CX0 2 A.a__law_due A.d__law_due ["_law_names", "_law_rules"] sp_due := ok__law_due T
  have G__law_told : FnOk P w K mg base CX0 6 A.a__law_told A.d__law_told ["_law_names", "_law_rules"] sp_told := ok__law_told T
  refine F.ok sc_law (fun vs H Q E h => ?_) (fun cdv A0 outer s0 H vs Q E hr h => ?_)
  · obtain ⟨a, ns, rfl, _⟩ := h
    rfl
  · obtain ⟨a, ns, rfl, hS0, hlen, q⟩ := h
    have hu64 := hu64_of hr
    refine ⟨_, (pss_cons (ps_set (i := 1) sc_law.nd rfl (Or.inl rfl) (pe_slice (r := rSlL K) sl_list (pv 0) po_none (po_some pe_int)))
 (Evl.pss_cut (ps_if (pt_cmpR (r := rEqP K) (op_eqP hu64) (pv 1) (pe_lst pa_nil) (nomark _)) (pss_one (ps_set (i := 1) sc_law.nd rfl (Or.inl rfl) (pe_lst (pa_cons pe_int (pa_cons pe_int pa_nil))))) pss_nil)
 (pss_cons (ps_for PassesOwn.never rfl (pi_list (pv 1)) (pg_name (i := 2) sc_law.nd rfl (Or.inl rfl))
 (pss_cons (ps_set (i := 3) sc_law.nd rfl (Or.inl rfl) (pe_call G__law_digits (hr.mono (by decide)) (by rfl) T.g__law_digits T.F__law_digits.kp T.b__law_digits .nil pass0 (pa_cons (pv 2) (pa_cons pe_int pa_nil))))
 (pss_cons (ps_asg (pe_call G__law_built (hr.mono (by decide)) (by rfl) T.g__law_built T.F__law_built.kp T.b__law_built .nil pass0 (pa_cons (pe_op op_fdiv (pv 2) pe_int) (pa_cons (pe_op op_add pe_int (pe_op op_mod (pv 2) pe_int)) pa_nil))) (pg_tup (by rfl) (pgs_cons (pg_name (i := 4) sc_law.nd rfl (Or.inl rfl)) (pgs_cons (pg_name (i := 5) sc_law.nd rfl (Or.inl rfl)) pgs_nil))))
 (pss_cons (ps_for PassesOwn.never rfl (pi_range1 (by rfl) T.range (pa_cons (pe_op op_add pe_int (pe_op op_mod (pe_ix (r := rIxL K) ix_list (pv 3) pe_int (fun _ _ => rfl)) pe_int)) pa_nil)) (pg_name (i := 6) sc_law.nd rfl (Or.inl rfl))
 (pss_one (ps_if (pt_cmpR (r := rNeP K) (op_neP hu64) (pv 4) (pe_lst pa_nil) (nomark _)) (pss_one (ps_asg (pe_call G__law_spoilt (hr.mono (by decide)) (by rfl) T.g__law_spoilt T.F__law_spoilt.kp T.b__law_spoilt .nil pass0 (pa_cons (pv 4) (pa_cons (pv 5) (pa_cons (pe_op op_mod (pe_ix (r := rIxL K) ix_list (pv 3) (pe_op op_add pe_int (pe_op op_mul pe_int (pv 6))) (fun _ _ => rfl)) pe_int) (pa_cons (pe_ix (r := rIxL K) ix_list (pv 3) (pe_op op_add pe_int (pe_op op_mul pe_int (pv 6))) (fun _ _ => rfl)) (pa_cons (pe_ix (r := rIxL K) ix_list (pv 3) (pe_op op_add pe_int (pe_op op_mul pe_int (pv 6))) (fun _ _ => rfl)) pa_nil)))))) (pg_tup (by rfl) (pgs_cons (pg_name (i := 4) sc_law.nd rfl (Or.inl rfl)) (pgs_cons (pg_name (i := 5) sc_law.nd rfl (Or.inl rfl)) pgs_nil))))) pss_nil)))
 (pss_cons (ps_set (i := 7) sc_law.nd rfl (Or.inl rfl) (pe_call G__law_due (hr.mono (by decide)) (by rfl) T.g__law_due T.F__law_due.kp T.b__law_due .nil pass0 (pa_cons (pv 4) (pa_cons (pv 5) pa_nil))))
 (pss_cons (ps_set (i := 8) sc_law.nd rfl (Or.inl rfl) (pe_call G__law_told (hr.mono (by decide)) (by rfl) T.g__law_told T.F__law_told.kp T.b__law_told .nil pass0 (pa_cons (pv 4) (pa_cons (pv 5) pa_nil))))
 (pss_one (ps_if (PW.pt (pw_or (PW.pt (pw_and (pt_cmpR op_isN (pv 7) pe_non (nomark _)) (pw_and1 (pt_cmpR (r := rNeP K) (op_neP hu64) (pv 8) (pe_tup (pa_cons pe_str (pa_cons (pv 4) (pa_cons (pv 5) pa_nil)))) (nomark _))))) (pw_or1 (PW.pt (pw_and (pt_cmpR op_notN (pv 7) pe_non (nomark _)) (pw_and1 (pt_cmpR (r := rNeP K) (op_neP hu64) (pv 8) (pe_tup (pa_cons pe_str (pa_cons (pv 7) pa_nil))) (nomark _)))))))) (pss_one (ps_ret pe_bl)) pss_nil))))))))
 (pss_one (ps_ret (pe_cmpR (r := rEqP K) (op_eqP hu64) (pe_call G__law_told (hr.mono (by decide)) (by rfl) T.g__law_told T.F__law_told.kp T.b__law_told .nil pass0 (pa_cons (pe_lst pa_nil) (pa_cons (pe_lst pa_nil) pa_nil))) (pe_tup (pa_cons pe_str (pa_cons (pe_un un_neg pe_int) pa_nil))) (nomark _))))))), ?_⟩
    -- the cells
    refine ⟨_, rfl, _, rfl, a, _, rfl, hS0, fun c hc => ?_⟩
    refine ⟨fun σ' H' => ∃ (c2 : Addr) (zs : List Int), σ' = [some (.ref a), some (.ref c2), none, none, none, none, none, none, none] ∧ H' c2 = some (.lst (zs.map V.int)), ?_, ?_⟩
    · have e1 : (upd H c (.lst (cutV (ns.map V.int) none (some 8)))) c = some (.lst ((ns.take 8).map V.int)) := by
        rw [upd_same, show (8 : Int) = ((8 : Nat) : Int) from rfl, cut_lt, List.map_take]
      refine ⟨_, rfl, Nat.zero_le _, fun e he => ?_⟩
      refine ⟨eL .int (ns.take 8), eL .int [], .lst (SqL.of (same_new he _ _ e1)) (dpAll_ints _), .lst (SqL.of upd_same) .nil, Nat.le_trans (dep_L dep_int _) (by decide), _, rfl, ite2 (fun _ => ?_) (fun _ => ?_)⟩
      · refine ⟨sl2 (by show 2 ≤ 1000000; decide), fun f hf => ⟨f, [4, 19], rfl, upd_same⟩⟩
      · exact ⟨c, _, rfl, same_new he _ _ e1⟩
    rintro σ' H1 ⟨c2, zs, rfl, hz⟩
    refine ⟨_, rfl, c2, rfl, ⟨_, SqL.of hz⟩, for_list (K := K) (a := c2) (xs := zs.map V.int) (fun i σ' H' => ∃ x2 x3 x4 x5 x6 x7 x8 : Option V, σ' = [some (.ref a), some (.ref c2), x2, x3, x4, x5, x6, x7, x8] ∧ Same H1 H') ?_ ?_ ?_ ?_⟩
    · exact ⟨_, _, _, _, _, _, _, rfl, Same.refl _⟩
    · rintro i σ' H2 _ ⟨_, _, _, _, _, _, _, rfl, sm⟩
      exact SqL.of (sm _ _ hz)
    · rintro i x σ' H2 hi ⟨x2, x3, x4, x5, x6, x7, x8, rfl, sm⟩
      obtain ⟨cell, hcell, rfl⟩ := map_at hi
      refine ⟨_, rfl, cell, 12, rfl, by decide, by decide, fun dr H3 ds sm3 hdr0 hdr hdl hdg => ?_⟩
      have hdl : ds.length = 12 := by omega
      -- names, rules
      have hm0 : 0 ≤ 1 + cell % 6 := by omega
      refine ⟨_, rfl, _, _, rfl, rfl, ⟨by decide, by decide⟩, _, rfl, _, _, rfl, rfl, lt0, _, _, rfl, rfl, cell / 6, (1 + cell % 6).toNat, by rw [Int.toNat_of_nonneg hm0]; rfl, by omega, by omega, fun pr na ru0 H4 names rs0 sm4 hpr0 hna0 hru0 nnr hpr hna htr hnames hcal hgood hne hrl hnl => ?_⟩
      obtain ⟨ts0, hts0, htp0⟩ := htr
      have htr0 : TriosAt H4 ru0 rs0 := ⟨ts0, hts0, Paired.mapP htp0 fun _ _ ⟨_, w, _, h3, h4⟩ => ⟨w, h3, h4⟩⟩
      refine ⟨pr, _, rfl, SqT.of hpr, rfl, _, _, rfl, _, _, rfl, rfl, ?_⟩
      have bd0 : BdS 0 names rs0 := ⟨by omega, fun x hx => Nat.le_trans (areNames_len hnames x hx) (by decide), by omega, fun r hr => by
        obtain ⟨g1, g2, g3, _⟩ := hgood.ok r hr
        have := areNames_len hnames _ g1
        rw [isLetter_len g2]
        omega⟩
      have sm14 := sm.trans (sm3.trans sm4)
      have hdr4 := sm4 _ _ hdr
      clear hpr hpr0 hts0 htp0 ts0 hdr hna0 hru0 nnr hcal hgood hne hrl hnl hnames hdr0 sm3 sm4 sm
      -- spoilt
      obtain ⟨d0, hd0, hd1, hd2⟩ := dig_at hdg (i := 0) (by decide) (by rw [hdl]; decide)
      have hn0 : 0 ≤ 1 + d0 % 2 := by omega
      refine ⟨_, rfl, dr, _, _, _, rfl, rfl, SqL.of hdr4, hd0, _, _, rfl, rfl, lt0, _, _, rfl, rfl, (1 + d0 % 2), rfl, by omega, by omega, for_range (fun k σ' H' => ∃ (x6 : Option V) (na ru : Addr) (names : List Str) (rs : List Rule), σ' = [some (.ref a), some (.ref c2), some (.int cell), some (.ref dr), some (.ref na), some (.ref ru), x6, x7, x8] ∧ Same H4 H' ∧ H' na = some (.lst (names.map V.str)) ∧ TriosAt H' ru rs ∧ BdS k names rs) ?_ ?_ ?_⟩
      · exact ⟨_, na, ru0, names, rs0, rfl, Same.refl _, hna, htr0, bd0⟩
      · clear hna htr0 bd0 names rs0 na ru0
        rintro k σ' H5 hk ⟨x6, na, ru, names, rs, rfl, sm5, hna, htr, bd⟩
        have hk2 : k < 2 := by omega
        refine ⟨_, rfl, Nat.zero_le _, fun e he => ?_⟩
        have sme := same_new he (o := .lst [])
        refine ⟨eSs names, eSs [], dp_Ss (sme _ _ hna), .lst (SqL.of upd_same) .nil, Nat.le_trans (dep_Ss _) (by decide), _, rfl, ?_⟩
        rw [enc_Ss]
        by_cases c0 : names = []
        · refine iteNE (decide_eq_true c0) ?_
          exact ⟨_, na, ru, names, rs, rfl, sm5.trans sme, sme _ _ hna, htr.same sme, bd.up⟩
        · rw [decide_eq_false c0]
          refine iteT ?_
          generalize upd H5 e (.lst []) = H6 at sme
          have hdr6 := sme _ _ (sm5 _ _ hdr4)
          obtain ⟨a1, ha1, ha2, ha3⟩ := dig_at hdg (i := 1 + 4 * (0 + (k : Int))) (by omega) (by rw [hdl]; omega)
          obtain ⟨a2, hb1, hb2, hb3⟩ := dig_at hdg (i := 2 + 4 * (0 + (k : Int))) (by omega) (by rw [hdl]; omega)
          obtain ⟨a3, hc1, hc2, hc3⟩ := dig_at hdg (i := 3 + 4 * (0 + (k : Int))) (by omega) (by rw [hdl]; omega)
          have mb : (-18446744073709551616 : Int) < 4 ∧ (4 : Int) < 18446744073709551616 := by decide
          refine ⟨_, rfl, _, rfl, _, rfl, _, rfl, _, _, rfl, rfl, .inl ⟨by omega, by omega⟩, _, _, rfl, rfl, dr, _, _, _, rfl, rfl, SqL.of hdr6, ha1, _, _, rfl, rfl, lt0, ?_⟩
          refine ⟨_, rfl, _, rfl, _, _, rfl, rfl, .inl ⟨by omega, by omega⟩, _, _, rfl, rfl, dr, _, _, _, rfl, rfl, SqL.of hdr6, hb1, ?_⟩
          refine ⟨_, rfl, _, rfl, _, _, rfl, rfl, .inl ⟨by omega, by omega⟩, _, _, rfl, rfl, dr, _, _, _, rfl, rfl, SqL.of hdr6, hc1, ?_⟩
          refine ⟨na, ru, names, rs, _, _, _, k, rfl, sme _ _ hna, htr.same sme, bd, by omega, c0, hb2, hc2, by omega, fun p na' ru' names' rs' H7 sm7 hp hna' htr' bd' => ?_⟩
          refine ⟨p, _, rfl, SqT.of hp, rfl, _, _, rfl, _, _, rfl, rfl, ?_⟩
          exact ⟨_, na', ru', names', rs', rfl, (sm5.trans sme).trans sm7, hna', htr', bd'⟩
      clear hna htr0 bd0 names rs0 na ru0
      rintro σ' H5 ⟨x6, na, ru, names, rs, rfl, sm5, hna, htr, bd⟩
      have bd : names.length ≤ 9 ∧ (∀ x ∈ names, x.length ≤ 22) ∧ rs.length ≤ 32 ∧ ∀ r ∈ rs, r.1.length ≤ 22 ∧ r.2.1.length ≤ 10 ∧ r.2.2.length ≤ 6 := by
        have hb : (1 + d0 % 2).toNat ≤ 2 := by omega
        obtain ⟨b1, b2, b3, b4⟩ := bd
        exact ⟨by omega, fun x hx => by have := b2 x hx; omega, by omega, fun r hr => by have := b4 r hr; omega⟩
      obtain ⟨b1, b2, b3, b4⟩ := bd
      -- what is due, what is told
      refine ⟨_, rfl, _, rfl, na, ru, names, rs, rfl, hna, htr, by omega, fun x hx => by have := b2 x hx; omega, by omega, fun r hr => by have := b4 r hr; omega, fun H6 sm6 => ?_⟩
      refine ⟨_, rfl, _, rfl, na, ru, names, rs, rfl, sm6 _ _ hna, htr.same sm6, by omega, fun x hx => by have := b2 x hx; omega, by omega, fun r hr => by have := b4 r hr; omega, fun p n1 r1 H7 hd sm7 hp hn1 hr1 => ?_, fun p k H7 hd sm7 hp => ?_⟩
      · rw [hd]
        have sm67 := sm6.trans sm7
        refine ⟨_, rfl, rfl, _, rfl, iteTB (decide_eq_true rfl) ?_⟩
        refine ⟨_, rfl, _, rfl, _, rfl, sl2 (by show 3 ≤ 1000000; decide), fun z hz => ?_⟩
        have smz := same_new hz (o := .tup [.str "told", .ref na, .ref ru])
        refine ⟨e3 PyData.str eSs (eL eTrio) ("told", names, rs), e3 PyData.str eSs (eL eTrio) ("told", names, rs), .tup (SqT.of (smz _ _ hp)) (.cons (.str _) (.cons (dp_Ss (smz _ _ hn1)) (.cons (dp_trios (hr1.same smz)) .nil))), .tup (SqT.of upd_same) (.cons (.str _) (.cons (dp_Ss (smz _ _ (sm67 _ _ hna))) (.cons (dp_trios (htr.same (sm67.trans smz))) .nil))), Nat.le_trans (dep_3 dep_str dep_Ss (dep_L dep_Trio) _) (by decide), _, rfl, ?_⟩
        rw [enc_3 enc_str enc_Ss (enc_L enc_Trio)]
        refine iteNE (decide_eq_true rfl) ?_
        refine ⟨_, rfl, rfl, _, rfl, iteFB (by rw [show decide (dueV none = V.non) = true from decide_eq_true rfl]; rfl) ?_⟩
        exact ⟨_, _, _, _, _, _, _, rfl, (sm14.trans sm5).trans (sm67.trans smz)⟩
      · rw [hd]
        have sm67 := sm6.trans sm7
        refine ⟨_, rfl, rfl, _, rfl, iteB (fun h => (nomatch (of_decide_eq_true h))) (fun _ => ?_)⟩
        refine ⟨_, rfl, rfl, _, rfl, iteTB (by rw [show decide (dueV (some k) = V.non) = false from decide_eq_false (fun z => by cases z)]; rfl) ?_⟩
        refine ⟨_, rfl, _, rfl, sl2 (by show 2 ≤ 1000000; decide), fun z hz => ?_⟩
        have smz := same_new hz (o := .tup [.str "refused", .int k])
        refine ⟨e2 PyData.str PyData.int ("refused", k), e2 PyData.str PyData.int ("refused", k), .tup (SqT.of (smz _ _ hp)) (.cons (.str _) (.cons (.int _) .nil)), .tup (SqT.of upd_same) (.cons (.str _) (.cons (.int _) .nil)), Nat.le_trans (dep_2 dep_str dep_int _) (by decide), _, rfl, ?_⟩
        rw [enc_2 enc_str enc_int]
        refine iteNE (decide_eq_true rfl) ?_
        exact ⟨_, _, _, _, _, _, _, rfl, (sm14.trans sm5).trans (sm67.trans smz)⟩
    · rintro σ' H2 ⟨_, _, _, _, _, _, _, rfl, _⟩
      refine ⟨Nat.zero_le _, fun f1 he1 => ⟨Nat.zero_le _, fun f2 he2 => ?_⟩⟩
      have sm1 := same_new he2 (o := .lst [])
      refine ⟨f1, f2, [], [], rfl, sm1 _ _ upd_same, ⟨[], upd_same, .nil⟩, by decide, fun x hx => (nomatch hx), by decide, fun r hr => (nomatch hr), fun p n1 r1 H7 hd => absurd hd (by decide), fun p k H7 hd sm7 hp => ?_⟩
      have hk : k = -1 := by
        have : dueG [] [] = some (-1) := by decide
        rw [this] at hd
        exact (Option.some.inj hd).symm
      subst hk
      refine ⟨_, rfl, sl2 (by show 2 ≤ 1000000; decide), fun z hz => ?_⟩
      have smz := same_new hz (o := .tup [.str "refused", .int (-1)])
      refine ⟨e2 PyData.str PyData.int ("refused", -1), e2 PyData.str PyData.int ("refused", -1), .tup (SqT.of (smz _ _ hp)) (.cons (.str _) (.cons (.int _) .nil)), .tup (SqT.of upd_same) (.cons (.str _) (.cons (.int _) .nil)), Nat.le_trans (dep_2 dep_str dep_int _) (by decide), ?_⟩
      rw [enc_2 enc_str enc_int, decide_eq_true rfl]
      exact q _
end
end SG
namespace SG
open PySem PySem.Spec PyProof.Rows L2
theorem all_mk {l : PySem.W.OpenLaw} {w : World} {K : PySem.W.Frag} {h : Heap} {mg : Str → Option Value} {fa f1 f2 f3 f4 f5 f6 f7 f8 f9 f10 f11 f12 f13 f14 f15 f16 f17 f18 f19 f20 C1 E1 E2 E3 E4 E5 E6 E7 E8 E9 E10 E11 : Addr} (X : K.In h) (G : h.Ns mainGlobals mg) (hfa : mg "law" = some (.ref fa))
    {od1 an1 od2 an2 od3 an3 od4 an4 od5 an5 od6 an6 od7 an7 od8 an8 od9 an9 od10 an10 od11 an11 od12 an12 od13 an13 od14 an14 od15 an15 od16 an16 od17 an17 od18 an18 od19 an19 od20 an20 : Option Addr} {sl1 sl2 sl3 sl4 sl5 sl6 sl7 sl8 sl9 sl10 sl11 sl12 sl13 sl14 sl15 sl16 sl17 sl18 sl19 sl20 : Array (Option Value)} {oc1 kV1 dc1 pm1 cd1 ct1 oc2 kV2 dc2 pm2 cd2 ct2 oc3 kV3 dc3 pm3 cd3 ct3 oc4 kV4 dc4 pm4 cd4 ct4 oc5 kV5 dc5 pm5 cd5 ct5 oc6 kV6 dc6 pm6 cd6 ct6 oc7 kV7 dc7 pm7 cd7 ct7 oc8 kV8 dc8 pm8 cd8 ct8 oc9 kV9 dc9 pm9 cd9 ct9 oc10 kV10 dc10 pm10 cd10 ct10 oc11 kV11 dc11 pm11 cd11 ct11 oc12 kV12 dc12 pm12 cd12 ct12 oc13 kV13 dc13 pm13 cd13 ct13 oc14 kV14 dc14 pm14 cd14 ct14 oc15 kV15 dc15 pm15 cd15 ct15 oc16 kV16 dc16 pm16 cd16 ct16 oc17 kV17 dc17 pm17 cd17 ct17 oc18 kV18 dc18 pm18 cd18 ct18 oc19 kV19 dc19 pm19 cd19 ct19 oc20 kV20 dc20 pm20 cd20 ct20 : Value}
    {nm_NoGrammar qn_NoGrammar : Str} {N_NoGrammar : Addr} {bs_NoGrammar : List Value} {sn_NoGrammar : List Str} {sub_NoGrammar : List Value} {ab_NoGrammar : Bool} {col_NoGrammar : Option Bool} {dd_NoGrammar : Option Addr} {m0_NoGrammar m1_NoGrammar m2_NoGrammar m3_NoGrammar m5_NoGrammar : Option Value}
    {t_SMALL t_MOST_NAMES t_MOST_RULES t_MOST_ROW : Tok}
    (aC1 : PySem.W.nsIn K mainGlobals "Grammar" = some (some (.ref C1))) (pg1 : PySem.W.plainGet K C1 Str.empty = true) (hd1 : PySem.W.hasDictIn K C1 = true) (po1 : PySem.W.plainOver K C1 = true) (sa1 : PySem.W.findIn K (.ref C1) "__setattr__" = some (some (.builtin "object.__setattr__"))) (mk1 : PySem.W.makesIn K C1 = true) (kc1 : PySem.W.keepIn K (.ref C1) = true)
    (n1_known : PySem.W.findIn K (.ref C1) "known" = some none)
    (n1_stored : PySem.W.findIn K (.ref C1) "stored" = some none)
    (n1_order : PySem.W.findIn K (.ref C1) "order" = some none)
    (aX_NoGrammar : PySem.W.nsIn K mainGlobals "NoGrammar" = some (some (.ref E1)))
    (aX_GoError : PySem.W.nsIn K mainGlobals "GoError" = some (some (.ref E2)))
    (aX_NoText : PySem.W.nsIn K mainGlobals "NoText" = some (some (.ref E3)))
    (aX_NoName : PySem.W.nsIn K mainGlobals "NoName" = some (some (.ref E4)))
    (aX_Endless : PySem.W.nsIn K mainGlobals "Endless" = some (some (.ref E5)))
    (aX_TooLarge : PySem.W.nsIn K mainGlobals "TooLarge" = some (some (.ref E6)))
    (aX_NotSimple : PySem.W.nsIn K mainGlobals "NotSimple" = some (some (.ref E7)))
    (aX_Taken : PySem.W.nsIn K mainGlobals "Taken" = some (some (.ref E8)))
    (aX_InUse : PySem.W.nsIn K mainGlobals "InUse" = some (some (.ref E9)))
    (aX_NoRule : PySem.W.nsIn K mainGlobals "NoRule" = some (some (.ref E10)))
    (aX_Nothing : PySem.W.nsIn K mainGlobals "Nothing" = some (some (.ref E11)))
    (xL_NoGrammar : K.lookup E1 = some (excClassObj nm_NoGrammar qn_NoGrammar E1 N_NoGrammar bs_NoGrammar [.ref E2, .type "ValueError", .type "Exception", .type "BaseException", .type "object"] true sn_NoGrammar sub_NoGrammar ab_NoGrammar col_NoGrammar dd_NoGrammar m0_NoGrammar m1_NoGrammar m2_NoGrammar m3_NoGrammar m5_NoGrammar "ValueError.__new__"))
    (sa_NoGrammar : PySem.W.findIn K (.ref E1) "__setattr__" = some (some (.builtin "object.__setattr__")))
    (eC_NoGrammar : PySem.W.subIn K (.ref E1) (.type "BaseException") = some true)
    (tC_NoGrammar : PySem.W.typeIn K (.ref E1) = some (.type "type"))
    (kC_NoGrammar : PySem.W.keepIn K (.ref E1) = true)
    (ga_NoGrammar : PySem.W.findIn K (.ref E1) "__getattribute__" = some (some (.builtin "BaseException.__getattribute__")))
    (gg_NoGrammar : PySem.W.findIn K (.ref E1) "__getattr__" = some none)
    (hd_NoGrammar : PySem.W.hasDictIn K E1 = true)
    (ca_NoGrammar : PySem.W.findIn K (.ref E1) "__class__" = some (some (.builtin "object.__class__")))
    (cm_NoGrammar : PySem.W.mroIn K E1 (.type "object") = some true)
    (sX_NoGrammar : PySem.W.subIn K (.ref E1) (.ref E2) = some true)
    (nX_NoGrammar_at : PySem.W.findIn K (.ref E1) "at" = some none)
    (bB_GoError : PySem.W.subIn K (.ref E2) (.type "BaseException") = some true)
    (bH_GoError : PySem.W.hasDictIn K E2 = true)
    (bT_GoError : PySem.W.typeIn K (.ref E2) = some (.type "type"))
    (bR_GoError : PySem.W.readsIn K E2 (.type "type") = true)
    (bG_GoError : PySem.W.specialIn K (.ref E2) "__getattribute__" = some (some (.builtin "type.__getattribute__")))
    (bV_GoError : PySem.W.findCls K (.ref E2) (.type "type") "__init__" = some (.val (.builtin "ValueError.__init__")))
    (cgX : PySem.W.specialIn K (.builtin "object.__class__") "__get__" = some (some (.builtin "getset_descriptor.__get__"))) (ctX : PySem.W.takesIn K (.builtin "object.__class__") = some true)
    (hd_NoText : PySem.W.hasDictIn K E3 = true) (tC_NoText : PySem.W.typeIn K (.ref E3) = some (.type "type"))
    (hd_NoName : PySem.W.hasDictIn K E4 = true) (tC_NoName : PySem.W.typeIn K (.ref E4) = some (.type "type"))
    (hd_Endless : PySem.W.hasDictIn K E5 = true) (tC_Endless : PySem.W.typeIn K (.ref E5) = some (.type "type"))
    (hd_TooLarge : PySem.W.hasDictIn K E6 = true) (tC_TooLarge : PySem.W.typeIn K (.ref E6) = some (.type "type"))
    (hd_NotSimple : PySem.W.hasDictIn K E7 = true) (tC_NotSimple : PySem.W.typeIn K (.ref E7) = some (.type "type"))
    (hd_Taken : PySem.W.hasDictIn K E8 = true) (tC_Taken : PySem.W.typeIn K (.ref E8) = some (.type "type"))
    (hd_InUse : PySem.W.hasDictIn K E9 = true) (tC_InUse : PySem.W.typeIn K (.ref E9) = some (.type "type"))
    (hd_NoRule : PySem.W.hasDictIn K E10 = true) (tC_NoRule : PySem.W.typeIn K (.ref E10) = some (.type "type"))
    (hd_Nothing : PySem.W.hasDictIn K E11 = true) (tC_Nothing : PySem.W.typeIn K (.ref E11) = some (.type "type"))
    (sS_NoGrammar : PySem.W.subIn K (.ref E1) (.ref E1) = some true)
    (kI_NoGrammar_NoText : PySem.W.subIn K (.ref E1) (.ref E3) = some false)
    (kI_NoGrammar_NoName : PySem.W.subIn K (.ref E1) (.ref E4) = some false)
    (kI_NoGrammar_Endless : PySem.W.subIn K (.ref E1) (.ref E5) = some false)
    (kI_NoGrammar_TooLarge : PySem.W.subIn K (.ref E1) (.ref E6) = some false)
    (kI_NoGrammar_NotSimple : PySem.W.subIn K (.ref E1) (.ref E7) = some false)
    (kI_NoGrammar_Taken : PySem.W.subIn K (.ref E1) (.ref E8) = some false)
    (kI_NoGrammar_InUse : PySem.W.subIn K (.ref E1) (.ref E9) = some false)
    (kI_NoGrammar_NoRule : PySem.W.subIn K (.ref E1) (.ref E10) = some false)
    (kI_NoGrammar_Nothing : PySem.W.subIn K (.ref E1) (.ref E11) = some false)
    (kI_NoGrammar_NoGrammar : PySem.W.subIn K (.ref E1) (.ref E1) = some true)
    (kI_NoGrammar_ValueError : PySem.W.subIn K (.ref E1) (.type "ValueError") = some true)
    (a1 : PySem.W.nsIn K mainGlobals "is_small" = some (some (.ref f1)))
    (l1 : K.lookup f1 = some ⟨oc1, od1, .func (PySem.W.fnOf "is_small" "is_small" (defArgs s_is_small) (defBody s_is_small) (defScope s_is_small) .none kV1 dc1 pm1 an1 cd1 ct1), sl1⟩) (c1 : PySem.W.codeIn K cd1 "is_small" = true) (k1 : PySem.W.keepIn K (.ref f1) = true)
    (a2 : PySem.W.nsIn K mainGlobals "is_name" = some (some (.ref f2)))
    (l2 : K.lookup f2 = some ⟨oc2, od2, .func (PySem.W.fnOf "is_name" "is_name" (defArgs s_is_name) (defBody s_is_name) (defScope s_is_name) .none kV2 dc2 pm2 an2 cd2 ct2), sl2⟩) (c2 : PySem.W.codeIn K cd2 "is_name" = true) (k2 : PySem.W.keepIn K (.ref f2) = true)
    (a3 : PySem.W.nsIn K mainGlobals "is_letter" = some (some (.ref f3)))
    (l3 : K.lookup f3 = some ⟨oc3, od3, .func (PySem.W.fnOf "is_letter" "is_letter" (defArgs s_is_letter) (defBody s_is_letter) (defScope s_is_letter) .none kV3 dc3 pm3 an3 cd3 ct3), sl3⟩) (c3 : PySem.W.codeIn K cd3 "is_letter" = true) (k3 : PySem.W.keepIn K (.ref f3) = true)
    (a4 : PySem.W.nsIn K mainGlobals "are_names" = some (some (.ref f4)))
    (l4 : K.lookup f4 = some ⟨oc4, od4, .func (PySem.W.fnOf "are_names" "are_names" (defArgs s_are_names) (defBody s_are_names) (defScope s_are_names) .none kV4 dc4 pm4 an4 cd4 ct4), sl4⟩) (c4 : PySem.W.codeIn K cd4 "are_names" = true) (k4 : PySem.W.keepIn K (.ref f4) = true)
    (a5 : PySem.W.findIn K (.ref E1) "__init__" = some (some (.ref f5))) (tI_NoGrammar : PySem.W.typeIn K (.ref f5) = some (.type "function"))
    (l5 : K.lookup f5 = some ⟨oc5, od5, .func (PySem.W.fnOf "__init__" "NoGrammar.__init__" (defArgs s_NoGrammar___init__) (defBody s_NoGrammar___init__) (defScope s_NoGrammar___init__) .none kV5 dc5 pm5 an5 cd5 ct5), sl5⟩) (c5 : PySem.W.codeIn K cd5 "NoGrammar.__init__" = true) (k5 : PySem.W.keepIn K (.ref f5) = true)
    (a6 : PySem.W.findIn K (.ref C1) "__init__" = some (some (.ref f6))) (i6 : PySem.W.isFn K (.ref f6) = true)
    (l6 : K.lookup f6 = some ⟨oc6, od6, .func (PySem.W.fnOf "__init__" "Grammar.__init__" (defArgs s_Grammar___init__) (defBody s_Grammar___init__) (defScope s_Grammar___init__) .none kV6 dc6 pm6 an6 cd6 ct6), sl6⟩) (c6 : PySem.W.codeIn K cd6 "Grammar.__init__" = true) (k6 : PySem.W.keepIn K (.ref f6) = true)
    (a7 : PySem.W.findIn K (.ref C1) "lets_by" = some (some (.ref f7))) (i7 : PySem.W.isFn K (.ref f7) = true)
    (l7 : K.lookup f7 = some ⟨oc7, od7, .func (PySem.W.fnOf "lets_by" "Grammar.lets_by" (defArgs s_Grammar_lets_by) (defBody s_Grammar_lets_by) (defScope s_Grammar_lets_by) .none kV7 dc7 pm7 an7 cd7 ct7), sl7⟩) (c7 : PySem.W.codeIn K cd7 "Grammar.lets_by" = true) (k7 : PySem.W.keepIn K (.ref f7) = true)
    (a8 : PySem.W.findIn K (.ref C1) "names" = some (some (.ref f8))) (i8 : PySem.W.isFn K (.ref f8) = true)
    (l8 : K.lookup f8 = some ⟨oc8, od8, .func (PySem.W.fnOf "names" "Grammar.names" (defArgs s_Grammar_names) (defBody s_Grammar_names) (defScope s_Grammar_names) .none kV8 dc8 pm8 an8 cd8 ct8), sl8⟩) (c8 : PySem.W.codeIn K cd8 "Grammar.names" = true) (k8 : PySem.W.keepIn K (.ref f8) = true)
    (a9 : PySem.W.findIn K (.ref C1) "rules" = some (some (.ref f9))) (i9 : PySem.W.isFn K (.ref f9) = true)
    (l9 : K.lookup f9 = some ⟨oc9, od9, .func (PySem.W.fnOf "rules" "Grammar.rules" (defArgs s_Grammar_rules) (defBody s_Grammar_rules) (defScope s_Grammar_rules) .none kV9 dc9 pm9 an9 cd9 ct9), sl9⟩) (c9 : PySem.W.codeIn K cd9 "Grammar.rules" = true) (k9 : PySem.W.keepIn K (.ref f9) = true)
    (a10 : PySem.W.nsIn K mainGlobals "_law_digits" = some (some (.ref f10)))
    (l10 : K.lookup f10 = some ⟨oc10, od10, .func (PySem.W.fnOf "_law_digits" "_law_digits" (defArgs s__law_digits) (defBody s__law_digits) (defScope s__law_digits) .none kV10 dc10 pm10 an10 cd10 ct10), sl10⟩) (c10 : PySem.W.codeIn K cd10 "_law_digits" = true) (k10 : PySem.W.keepIn K (.ref f10) = true)
    (a11 : PySem.W.nsIn K mainGlobals "_law_next_of" = some (some (.ref f11)))
    (l11 : K.lookup f11 = some ⟨oc11, od11, .func (PySem.W.fnOf "_law_next_of" "_law_next_of" (defArgs s__law_next_of) (defBody s__law_next_of) (defScope s__law_next_of) .none kV11 dc11 pm11 an11 cd11 ct11), sl11⟩) (c11 : PySem.W.codeIn K cd11 "_law_next_of" = true) (k11 : PySem.W.keepIn K (.ref f11) = true)
    (a12 : PySem.W.nsIn K mainGlobals "_law_called" = some (some (.ref f12)))
    (l12 : K.lookup f12 = some ⟨oc12, od12, .func (PySem.W.fnOf "_law_called" "_law_called" (defArgs s__law_called) (defBody s__law_called) (defScope s__law_called) .none kV12 dc12 pm12 an12 cd12 ct12), sl12⟩) (c12 : PySem.W.codeIn K cd12 "_law_called" = true) (k12 : PySem.W.keepIn K (.ref f12) = true)
    (a13 : PySem.W.nsIn K mainGlobals "_law_drawn" = some (some (.ref f13)))
    (l13 : K.lookup f13 = some ⟨oc13, od13, .func (PySem.W.fnOf "_law_drawn" "_law_drawn" (defArgs s__law_drawn) (defBody s__law_drawn) (defScope s__law_drawn) .none kV13 dc13 pm13 an13 cd13 ct13), sl13⟩) (c13 : PySem.W.codeIn K cd13 "_law_drawn" = true) (k13 : PySem.W.keepIn K (.ref f13) = true)
    (a14 : PySem.W.nsIn K mainGlobals "_law_built" = some (some (.ref f14)))
    (l14 : K.lookup f14 = some ⟨oc14, od14, .func (PySem.W.fnOf "_law_built" "_law_built" (defArgs s__law_built) (defBody s__law_built) (defScope s__law_built) .none kV14 dc14 pm14 an14 cd14 ct14), sl14⟩) (c14 : PySem.W.codeIn K cd14 "_law_built" = true) (k14 : PySem.W.keepIn K (.ref f14) = true)
    (a15 : PySem.W.nsIn K mainGlobals "_law_is_name" = some (some (.ref f15)))
    (l15 : K.lookup f15 = some ⟨oc15, od15, .func (PySem.W.fnOf "_law_is_name" "_law_is_name" (defArgs s__law_is_name) (defBody s__law_is_name) (defScope s__law_is_name) .none kV15 dc15 pm15 an15 cd15 ct15), sl15⟩) (c15 : PySem.W.codeIn K cd15 "_law_is_name" = true) (k15 : PySem.W.keepIn K (.ref f15) = true)
    (a16 : PySem.W.nsIn K mainGlobals "_law_due" = some (some (.ref f16)))
    (l16 : K.lookup f16 = some ⟨oc16, od16, .func (PySem.W.fnOf "_law_due" "_law_due" (defArgs s__law_due) (defBody s__law_due) (defScope s__law_due) .none kV16 dc16 pm16 an16 cd16 ct16), sl16⟩) (c16 : PySem.W.codeIn K cd16 "_law_due" = true) (k16 : PySem.W.keepIn K (.ref f16) = true)
    (a17 : PySem.W.nsIn K mainGlobals "_law_odd" = some (some (.ref f17)))
    (l17 : K.lookup f17 = some ⟨oc17, od17, .func (PySem.W.fnOf "_law_odd" "_law_odd" (defArgs s__law_odd) (defBody s__law_odd) (defScope s__law_odd) .none kV17 dc17 pm17 an17 cd17 ct17), sl17⟩) (c17 : PySem.W.codeIn K cd17 "_law_odd" = true) (k17 : PySem.W.keepIn K (.ref f17) = true)
    (a18 : PySem.W.nsIn K mainGlobals "_law_spoilt" = some (some (.ref f18)))
    (l18 : K.lookup f18 = some ⟨oc18, od18, .func (PySem.W.fnOf "_law_spoilt" "_law_spoilt" (defArgs s__law_spoilt) (defBody s__law_spoilt) (defScope s__law_spoilt) .none kV18 dc18 pm18 an18 cd18 ct18), sl18⟩) (c18 : PySem.W.codeIn K cd18 "_law_spoilt" = true) (k18 : PySem.W.keepIn K (.ref f18) = true)
    (a19 : PySem.W.nsIn K mainGlobals "_law_told" = some (some (.ref f19)))
    (l19 : K.lookup f19 = some ⟨oc19, od19, .func (PySem.W.fnOf "_law_told" "_law_told" (defArgs s__law_told) (defBody s__law_told) (defScope s__law_told) .none kV19 dc19 pm19 an19 cd19 ct19), sl19⟩) (c19 : PySem.W.codeIn K cd19 "_law_told" = true) (k19 : PySem.W.keepIn K (.ref f19) = true)
    (a20 : PySem.W.nsIn K mainGlobals "law" = some (some (.ref f20)))
    (l20 : K.lookup f20 = some ⟨oc20, od20, .func (PySem.W.fnOf "law" "law" (defArgs s_law) (defBody s_law) (defScope s_law) .none kV20 dc20 pm20 an20 cd20 ct20), sl20⟩) (c20 : PySem.W.codeIn K cd20 "law" = true) (k20 : PySem.W.keepIn K (.ref f20) = true)
    (z_SMALL : PySem.W.nsIn K mainGlobals "SMALL" = some (some (.str "abcdefghijklmnopqrstuvwxyz" t_SMALL)))
    (z_MOST_NAMES : PySem.W.nsIn K mainGlobals "MOST_NAMES" = some (some (.int 6 t_MOST_NAMES)))
    (z_MOST_RULES : PySem.W.nsIn K mainGlobals "MOST_RULES" = some (some (.int 4 t_MOST_RULES)))
    (z_MOST_ROW : PySem.W.nsIn K mainGlobals "MOST_ROW" = some (some (.int 3 t_MOST_ROW)))
    (z_len : PySem.W.nsIn K mainGlobals "len" = some none) (z_set : PySem.W.nsIn K mainGlobals "set" = some none) (z_all : PySem.W.nsIn K mainGlobals "all" = some none) (z_list : PySem.W.nsIn K mainGlobals "list" = some none) (z_enumerate : PySem.W.nsIn K mainGlobals "enumerate" = some none) (z_range : PySem.W.nsIn K mainGlobals "range" = some none) (z_sum : PySem.W.nsIn K mainGlobals "sum" = some none) (z_isinstance : PySem.W.nsIn K mainGlobals "isinstance" = some none) (z_ValueError : PySem.W.nsIn K mainGlobals "ValueError" = some none) :
    ∃ fd : FuncData, (∀ (s : Shared) (v : Value), BindsTo s fd ⟨[v], []⟩ [("_law_script", v)]) ∧ ∀ base : Heap, K.In base → base.Ns mainGlobals mg → FnOk l.prog w K mg base CX0 7 fa fd ["_law_script"] (sp_law K) := by
  have e := hfa.symm.trans (PySem.W.mg_of X G a20)
  cases e
  have F1 := fun_mk (st := s_is_small) l1 c1 k1
  have b1 := F1.binds (ps := ["text"]) fun _ _ _ _ _ _ us hl => match us, hl with | [_], _ => rfl
  have F2 := fun_mk (st := s_is_name) l2 c2 k2
  have b2 := F2.binds (ps := ["text"]) fun _ _ _ _ _ _ us hl => match us, hl with | [_], _ => rfl
  have F3 := fun_mk (st := s_is_letter) l3 c3 k3
  have b3 := F3.binds (ps := ["text"]) fun _ _ _ _ _ _ us hl => match us, hl with | [_], _ => rfl
  have F4 := fun_mk (st := s_are_names) l4 c4 k4
  have b4 := F4.binds (ps := ["names"]) fun _ _ _ _ _ _ us hl => match us, hl with | [_], _ => rfl
  have F5 := fun_mk (st := s_NoGrammar___init__) l5 c5 k5
  have b5 := F5.binds (ps := ["self", "at"]) fun _ _ _ _ _ _ us hl => match us, hl with | [_, _], _ => rfl
  have F6 := fun_mk (st := s_Grammar___init__) l6 c6 k6
  have b6 := F6.binds (ps := ["self", "names", "rules"]) fun _ _ _ _ _ _ us hl => match us, hl with | [_, _, _], _ => rfl
  have F7 := fun_mk (st := s_Grammar_lets_by) l7 c7 k7
  have b7 := F7.binds (ps := ["self", "rule"]) fun _ _ _ _ _ _ us hl => match us, hl with | [_, _], _ => rfl
  have F8 := fun_mk (st := s_Grammar_names) l8 c8 k8
  have b8 := F8.binds (ps := ["self"]) fun _ _ _ _ _ _ us hl => match us, hl with | [_], _ => rfl
  have F9 := fun_mk (st := s_Grammar_rules) l9 c9 k9
  have b9 := F9.binds (ps := ["self"]) fun _ _ _ _ _ _ us hl => match us, hl with | [_], _ => rfl
  have F10 := fun_mk (st := s__law_digits) l10 c10 k10
  have b10 := F10.binds (ps := ["_law_cell_here", "_law_many"]) fun _ _ _ _ _ _ us hl => match us, hl with | [_, _], _ => rfl
  have F11 := fun_mk (st := s__law_next_of) l11 c11 k11
  have b11 := F11.binds (ps := ["_law_state"]) fun _ _ _ _ _ _ us hl => match us, hl with | [_], _ => rfl
  have F12 := fun_mk (st := s__law_called) l12 c12 k12
  have b12 := F12.binds (ps := ["_law_state", "_law_many"]) fun _ _ _ _ _ _ us hl => match us, hl with | [_, _], _ => rfl
  have F13 := fun_mk (st := s__law_drawn) l13 c13 k13
  have b13 := F13.binds (ps := ["_law_state", "_law_names", "_law_most"]) fun _ _ _ _ _ _ us hl => match us, hl with | [_, _, _], _ => rfl
  have F14 := fun_mk (st := s__law_built) l14 c14 k14
  have b14 := F14.binds (ps := ["_law_cell_here", "_law_many"]) fun _ _ _ _ _ _ us hl => match us, hl with | [_, _], _ => rfl
  have F15 := fun_mk (st := s__law_is_name) l15 c15 k15
  have b15 := F15.binds (ps := ["_law_text"]) fun _ _ _ _ _ _ us hl => match us, hl with | [_], _ => rfl
  have F16 := fun_mk (st := s__law_due) l16 c16 k16
  have b16 := F16.binds (ps := ["_law_names", "_law_rules"]) fun _ _ _ _ _ _ us hl => match us, hl with | [_, _], _ => rfl
  have F17 := fun_mk (st := s__law_odd) l17 c17 k17
  have b17 := F17.binds (ps := ["_law_number"]) fun _ _ _ _ _ _ us hl => match us, hl with | [_], _ => rfl
  have F18 := fun_mk (st := s__law_spoilt) l18 c18 k18
  have b18 := F18.binds (ps := ["_law_names", "_law_rules", "_law_way", "_law_at", "_law_number"]) fun _ _ _ _ _ _ us hl => match us, hl with | [_, _, _, _, _], _ => rfl
  have F19 := fun_mk (st := s__law_told) l19 c19 k19
  have b19 := F19.binds (ps := ["_law_names", "_law_rules"]) fun _ _ _ _ _ _ us hl => match us, hl with | [_, _], _ => rfl
  have F20 := fun_mk (st := s_law) l20 c20 k20
  have T : Txt K mg ⟨C1, E1, E2, E3, E4, E5, E6, E7, E8, E9, E10, E11, f1, PySem.W.fnOf "is_small" "is_small" (defArgs s_is_small) (defBody s_is_small) (defScope s_is_small) .none kV1 dc1 pm1 an1 cd1 ct1, f2, PySem.W.fnOf "is_name" "is_name" (defArgs s_is_name) (defBody s_is_name) (defScope s_is_name) .none kV2 dc2 pm2 an2 cd2 ct2, f3, PySem.W.fnOf "is_letter" "is_letter" (defArgs s_is_letter) (defBody s_is_letter) (defScope s_is_letter) .none kV3 dc3 pm3 an3 cd3 ct3, f4, PySem.W.fnOf "are_names" "are_names" (defArgs s_are_names) (defBody s_are_names) (defScope s_are_names) .none kV4 dc4 pm4 an4 cd4 ct4, f5, PySem.W.fnOf "__init__" "NoGrammar.__init__" (defArgs s_NoGrammar___init__) (defBody s_NoGrammar___init__) (defScope s_NoGrammar___init__) .none kV5 dc5 pm5 an5 cd5 ct5, f6, PySem.W.fnOf "__init__" "Grammar.__init__" (defArgs s_Grammar___init__) (defBody s_Grammar___init__) (defScope s_Grammar___init__) .none kV6 dc6 pm6 an6 cd6 ct6, f7, PySem.W.fnOf "lets_by" "Grammar.lets_by" (defArgs s_Grammar_lets_by) (defBody s_Grammar_lets_by) (defScope s_Grammar_lets_by) .none kV7 dc7 pm7 an7 cd7 ct7, f8, PySem.W.fnOf "names" "Grammar.names" (defArgs s_Grammar_names) (defBody s_Grammar_names) (defScope s_Grammar_names) .none kV8 dc8 pm8 an8 cd8 ct8, f9, PySem.W.fnOf "rules" "Grammar.rules" (defArgs s_Grammar_rules) (defBody s_Grammar_rules) (defScope s_Grammar_rules) .none kV9 dc9 pm9 an9 cd9 ct9, f10, PySem.W.fnOf "_law_digits" "_law_digits" (defArgs s__law_digits) (defBody s__law_digits) (defScope s__law_digits) .none kV10 dc10 pm10 an10 cd10 ct10, f11, PySem.W.fnOf "_law_next_of" "_law_next_of" (defArgs s__law_next_of) (defBody s__law_next_of) (defScope s__law_next_of) .none kV11 dc11 pm11 an11 cd11 ct11, f12, PySem.W.fnOf "_law_called" "_law_called" (defArgs s__law_called) (defBody s__law_called) (defScope s__law_called) .none kV12 dc12 pm12 an12 cd12 ct12, f13, PySem.W.fnOf "_law_drawn" "_law_drawn" (defArgs s__law_drawn) (defBody s__law_drawn) (defScope s__law_drawn) .none kV13 dc13 pm13 an13 cd13 ct13, f14, PySem.W.fnOf "_law_built" "_law_built" (defArgs s__law_built) (defBody s__law_built) (defScope s__law_built) .none kV14 dc14 pm14 an14 cd14 ct14, f15, PySem.W.fnOf "_law_is_name" "_law_is_name" (defArgs s__law_is_name) (defBody s__law_is_name) (defScope s__law_is_name) .none kV15 dc15 pm15 an15 cd15 ct15, f16, PySem.W.fnOf "_law_due" "_law_due" (defArgs s__law_due) (defBody s__law_due) (defScope s__law_due) .none kV16 dc16 pm16 an16 cd16 ct16, f17, PySem.W.fnOf "_law_odd" "_law_odd" (defArgs s__law_odd) (defBody s__law_odd) (defScope s__law_odd) .none kV17 dc17 pm17 an17 cd17 ct17, f18, PySem.W.fnOf "_law_spoilt" "_law_spoilt" (defArgs s__law_spoilt) (defBody s__law_spoilt) (defScope s__law_spoilt) .none kV18 dc18 pm18 an18 cd18 ct18, f19, PySem.W.fnOf "_law_told" "_law_told" (defArgs s__law_told) (defBody s__law_told) (defScope s__law_told) .none kV19 dc19 pm19 an19 cd19 ct19⟩ := ⟨⟨pg1, hd1, po1, sa1⟩, PySem.W.mg_of X G aC1, n1_known, n1_stored, n1_order, ⟨mk1, a6, i6, kc1⟩, PySem.W.mg_of X G aX_NoGrammar, PySem.W.mg_of X G aX_GoError, PySem.W.mg_of X G aX_NoText, PySem.W.mg_of X G aX_NoName, PySem.W.mg_of X G aX_Endless, PySem.W.mg_of X G aX_TooLarge, PySem.W.mg_of X G aX_NotSimple, PySem.W.mg_of X G aX_Taken, PySem.W.mg_of X G aX_InUse, PySem.W.mg_of X G aX_NoRule, PySem.W.mg_of X G aX_Nothing, ⟨⟨_, _, _, _, _, _, _, _, _, _, _, _, _, _, _, xL_NoGrammar, rVE⟩, sa_NoGrammar, eC_NoGrammar, tC_NoGrammar, kC_NoGrammar⟩, a5, tI_NoGrammar, ⟨cls_of_dict hd_NoGrammar, ga_NoGrammar, gg_NoGrammar, eC_NoGrammar, hd_NoGrammar, ca_NoGrammar, cgX, ctX, cm_NoGrammar⟩, PySem.W.exm_ref bB_GoError bH_GoError bT_GoError sX_NoGrammar, nX_NoGrammar_at, ⟨bR_GoError, bG_GoError⟩, bV_GoError, kit_ref hd_NoText tC_NoText sS_NoGrammar kI_NoGrammar_NoText, kit_ref hd_NoName tC_NoName sS_NoGrammar kI_NoGrammar_NoName, kit_ref hd_Endless tC_Endless sS_NoGrammar kI_NoGrammar_Endless, kit_ref hd_TooLarge tC_TooLarge sS_NoGrammar kI_NoGrammar_TooLarge, kit_ref hd_NotSimple tC_NotSimple sS_NoGrammar kI_NoGrammar_NotSimple, kit_ref hd_Taken tC_Taken sS_NoGrammar kI_NoGrammar_Taken, kit_ref hd_InUse tC_InUse sS_NoGrammar kI_NoGrammar_InUse, kit_ref hd_NoRule tC_NoRule sS_NoGrammar kI_NoGrammar_NoRule, kit_ref hd_Nothing tC_Nothing sS_NoGrammar kI_NoGrammar_Nothing, kit_ref hd_NoGrammar tC_NoGrammar sS_NoGrammar kI_NoGrammar_NoGrammar, kit_VE kI_NoGrammar_ValueError, F1, PySem.W.mg_of X G a1, b1, F2, PySem.W.mg_of X G a2, b2, F3, PySem.W.mg_of X G a3, b3, F4, PySem.W.mg_of X G a4, b4, F5, b5, F6, ⟨a6, i6, k6⟩, b6, F7, ⟨a7, i7, k7⟩, b7, F8, ⟨a8, i8, k8⟩, b8, F9, ⟨a9, i9, k9⟩, b9, F10, PySem.W.mg_of X G a10, b10, F11, PySem.W.mg_of X G a11, b11, F12, PySem.W.mg_of X G a12, b12, F13, PySem.W.mg_of X G a13, b13, F14, PySem.W.mg_of X G a14, b14, F15, PySem.W.mg_of X G a15, b15, F16, PySem.W.mg_of X G a16, b16, F17, PySem.W.mg_of X G a17, b17, F18, PySem.W.mg_of X G a18, b18, F19, PySem.W.mg_of X G a19, b19, ⟨_, PySem.W.mg_of X G z_SMALL⟩, ⟨_, PySem.W.mg_of X G z_MOST_NAMES⟩, ⟨_, PySem.W.mg_of X G z_MOST_RULES⟩, ⟨_, PySem.W.mg_of X G z_MOST_ROW⟩, PySem.W.mg_none_of X G z_len, PySem.W.mg_none_of X G z_set, PySem.W.mg_none_of X G z_all, PySem.W.mg_none_of X G z_list, PySem.W.mg_none_of X G z_enumerate, PySem.W.mg_none_of X G z_range, PySem.W.mg_none_of X G z_sum, PySem.W.mg_none_of X G z_isinstance, PySem.W.mg_none_of X G z_ValueError⟩
  exact ⟨_, fun s v => .of_eq rfl, fun base _ _ => ok_law F20 T⟩
theorem walk {l : PySem.W.OpenLaw} {q : Program} {loose : List Str} {XP : (Str → Option Value) → Heap → Prop} {YP : World → Heap → Prop} {d : DefRec} {K : Params → PySem.W.Frag} (hn : l.most = some 63) (hdf : d.params.defaults = [])
    (hY : ∀ (w : World) (h : Heap), YP w h → (K w.params).In h)
    (F : ∀ (w : World) (mg : Str → Option Value) (fa : Addr) (h : Heap), (K w.params).In h → h.Ns mainGlobals mg → mg d.name = some (.ref fa) →
      ∃ fd : FuncData, (∀ (s : Shared) (u : Value), BindsTo s fd ⟨[u], []⟩ [("_law_script", u)]) ∧ ∀ base : Heap, (K w.params).In base → base.Ns mainGlobals mg → FnOk l.prog w (K w.params) mg base CX0 7 fa fd ["_law_script"] (sp_law (K w.params))) :
    PySem.W.WalkO q loose XP YP l.row.toRowW d [] (fun f vs => PySem.call f vs) :=
  L2.walk_of (n := 63) (k := 7) (x := "_law_script") (CX := fun _ => CX0) (sp := fun w => sp_law (K w.params)) hn (by decide) hdf ⟨rfl, by decide, by decide⟩ hY F (fun _ _ a ns hl _ hS => ⟨a, ns, rfl, hS, hl, fun _ => rfl⟩) fun _ _ _ _ _ z => z
end SG
open PySem PySem.W PyProof.Rows
set_option maxRecDepth 100000 in
set_option maxHeartbeats 0 in
theorem PySem.Challenge.cw_samegoing_k02_what_is_no_grammar_holds : PySem.Challenge.rw_samegoing_k02_what_is_no_grammar.Holds := by
  w_on; o_law; k_head; (case hw => w_witness2)
  k_fill
  refine SG.walk (l := PySem.Challenge.rw_samegoing_k02_what_is_no_grammar) rfl rfl (fun w h Y => PySem.W.kIn_of Y) ?F
  case F =>
    intro w mg fa h KX G hmg
    refine' SG.all_mk KX G hmg ?aC1 ?pg1 ?hd1 ?po1 ?sa1 ?mk1 ?kc1 ?n1_known ?n1_stored ?n1_order ?aX_NoGrammar ?aX_GoError ?aX_NoText ?aX_NoName ?aX_Endless ?aX_TooLarge ?aX_NotSimple ?aX_Taken ?aX_InUse ?aX_NoRule ?aX_Nothing ?xL_NoGrammar ?sa_NoGrammar ?eC_NoGrammar ?tC_NoGrammar ?kC_NoGrammar ?ga_NoGrammar ?gg_NoGrammar ?hd_NoGrammar ?ca_NoGrammar ?cm_NoGrammar ?sX_NoGrammar ?nX_NoGrammar_at ?bB_GoError ?bH_GoError ?bT_GoError ?bR_GoError ?bG_GoError ?bV_GoError ?cgX ?ctX ?hd_NoText ?tC_NoText ?hd_NoName ?tC_NoName ?hd_Endless ?tC_Endless ?hd_TooLarge ?tC_TooLarge ?hd_NotSimple ?tC_NotSimple ?hd_Taken ?tC_Taken ?hd_InUse ?tC_InUse ?hd_NoRule ?tC_NoRule ?hd_Nothing ?tC_Nothing ?sS_NoGrammar ?kI_NoGrammar_NoText ?kI_NoGrammar_NoName ?kI_NoGrammar_Endless ?kI_NoGrammar_TooLarge ?kI_NoGrammar_NotSimple ?kI_NoGrammar_Taken ?kI_NoGrammar_InUse ?kI_NoGrammar_NoRule ?kI_NoGrammar_Nothing ?kI_NoGrammar_NoGrammar ?kI_NoGrammar_ValueError ?a1 ?l1 ?c1 ?k1 ?a2 ?l2 ?c2 ?k2 ?a3 ?l3 ?c3 ?k3 ?a4 ?l4 ?c4 ?k4 ?a5 ?tI_NoGrammar ?l5 ?c5 ?k5 ?a6 ?i6 ?l6 ?c6 ?k6 ?a7 ?i7 ?l7 ?c7 ?k7 ?a8 ?i8 ?l8 ?c8 ?k8 ?a9 ?i9 ?l9 ?c9 ?k9 ?a10 ?l10 ?c10 ?k10 ?a11 ?l11 ?c11 ?k11 ?a12 ?l12 ?c12 ?k12 ?a13 ?l13 ?c13 ?k13 ?a14 ?l14 ?c14 ?k14 ?a15 ?l15 ?c15 ?k15 ?a16 ?l16 ?c16 ?k16 ?a17 ?l17 ?c17 ?k17 ?a18 ?l18 ?c18 ?k18 ?a19 ?l19 ?c19 ?k19 ?a20 ?l20 ?c20 ?k20 ?z_SMALL ?z_MOST_NAMES ?z_MOST_RULES ?z_MOST_ROW ?z_len ?z_set ?z_all ?z_list ?z_enumerate ?z_range ?z_sum ?z_isinstance ?z_ValueError
    (case aC1 => k_is)
    (case pg1 => k_is)
    (case hd1 => k_is)
    (case po1 => k_is)
    (case sa1 => k_is)
    (case mk1 => k_is)
    (case kc1 => k_is)
    (case n1_known => k_is)
    (case n1_stored => k_is)
    (case n1_order => k_is)
    (case aX_NoGrammar => k_is)
    (case aX_GoError => k_is)
    (case aX_NoText => k_is)
    (case aX_NoName => k_is)
    (case aX_Endless => k_is)
    (case aX_TooLarge => k_is)
    (case aX_NotSimple => k_is)
    (case aX_Taken => k_is)
    (case aX_InUse => k_is)
    (case aX_NoRule => k_is)
    (case aX_Nothing => k_is)
    (case xL_NoGrammar => k_is)
    (case sa_NoGrammar => k_is)
    (case eC_NoGrammar => k_is)
    (case tC_NoGrammar => k_is)
    (case kC_NoGrammar => k_is)
    (case ga_NoGrammar => k_is)
    (case gg_NoGrammar => k_is)
    (case hd_NoGrammar => k_is)
    (case ca_NoGrammar => k_is)
    (case cm_NoGrammar => k_is)
    (case sX_NoGrammar => k_is)
    (case nX_NoGrammar_at => k_is)
    (case bB_GoError => k_is)
    (case bH_GoError => k_is)
    (case bT_GoError => k_is)
    (case bR_GoError => k_is)
    (case bG_GoError => k_is)
    (case bV_GoError => k_is)
    (case cgX => k_is)
    (case ctX => k_is)
    (case hd_NoText => k_is)
    (case tC_NoText => k_is)
    (case hd_NoName => k_is)
    (case tC_NoName => k_is)
    (case hd_Endless => k_is)
    (case tC_Endless => k_is)
    (case hd_TooLarge => k_is)
    (case tC_TooLarge => k_is)
    (case hd_NotSimple => k_is)
    (case tC_NotSimple => k_is)
    (case hd_Taken => k_is)
    (case tC_Taken => k_is)
    (case hd_InUse => k_is)
    (case tC_InUse => k_is)
    (case hd_NoRule => k_is)
    (case tC_NoRule => k_is)
    (case hd_Nothing => k_is)
    (case tC_Nothing => k_is)
    (case sS_NoGrammar => k_is)
    (case kI_NoGrammar_NoText => k_is)
    (case kI_NoGrammar_NoName => k_is)
    (case kI_NoGrammar_Endless => k_is)
    (case kI_NoGrammar_TooLarge => k_is)
    (case kI_NoGrammar_NotSimple => k_is)
    (case kI_NoGrammar_Taken => k_is)
    (case kI_NoGrammar_InUse => k_is)
    (case kI_NoGrammar_NoRule => k_is)
    (case kI_NoGrammar_Nothing => k_is)
    (case kI_NoGrammar_NoGrammar => k_is)
    (case kI_NoGrammar_ValueError => k_is)
    (case a1 => k_is)
    (case l1 => k_is)
    (case c1 => k_is)
    (case k1 => k_is)
    (case a2 => k_is)
    (case l2 => k_is)
    (case c2 => k_is)
    (case k2 => k_is)
    (case a3 => k_is)
    (case l3 => k_is)
    (case c3 => k_is)
    (case k3 => k_is)
    (case a4 => k_is)
    (case l4 => k_is)
    (case c4 => k_is)
    (case k4 => k_is)
    (case a5 => k_is)
    (case tI_NoGrammar => k_is)
    (case l5 => k_is)
    (case c5 => k_is)
    (case k5 => k_is)
    (case a6 => k_is)
    (case i6 => k_is)
    (case l6 => k_is)
    (case c6 => k_is)
    (case k6 => k_is)
    (case a7 => k_is)
    (case i7 => k_is)
    (case l7 => k_is)
    (case c7 => k_is)
    (case k7 => k_is)
    (case a8 => k_is)
    (case i8 => k_is)
    (case l8 => k_is)
    (case c8 => k_is)
    (case k8 => k_is)
    (case a9 => k_is)
    (case i9 => k_is)
    (case l9 => k_is)
    (case c9 => k_is)
    (case k9 => k_is)
    (case a10 => k_is)
    (case l10 => k_is)
    (case c10 => k_is)
    (case k10 => k_is)
    (case a11 => k_is)
    (case l11 => k_is)
    (case c11 => k_is)
    (case k11 => k_is)
    (case a12 => k_is)
    (case l12 => k_is)
    (case c12 => k_is)
    (case k12 => k_is)
    (case a13 => k_is)
    (case l13 => k_is)
    (case c13 => k_is)
    (case k13 => k_is)
    (case a14 => k_is)
    (case l14 => k_is)
    (case c14 => k_is)
    (case k14 => k_is)
    (case a15 => k_is)
    (case l15 => k_is)
    (case c15 => k_is)
    (case k15 => k_is)
    (case a16 => k_is)
    (case l16 => k_is)
    (case c16 => k_is)
    (case k16 => k_is)
    (case a17 => k_is)
    (case l17 => k_is)
    (case c17 => k_is)
    (case k17 => k_is)
    (case a18 => k_is)
    (case l18 => k_is)
    (case c18 => k_is)
    (case k18 => k_is)
    (case a19 => k_is)
    (case l19 => k_is)
    (case c19 => k_is)
    (case k19 => k_is)
    (case a20 => k_is)
    (case l20 => k_is)
    (case c20 => k_is)
    (case k20 => k_is)
    (case z_SMALL => k_is)
    (case z_MOST_NAMES => k_is)
    (case z_MOST_RULES => k_is)
    (case z_MOST_ROW => k_is)
    (case z_len => k_is)
    (case z_set => k_is)
    (case z_all => k_is)
    (case z_list => k_is)
    (case z_enumerate => k_is)
    (case z_range => k_is)
    (case z_sum => k_is)
    (case z_isinstance => k_is)
    (case z_ValueError => k_is)
