import PyProof.Rows.All
import Wide.All
import OpenK.AllK
import Wide.FinOn
import HandS.ForMost
import HandS.Walk
import HandS.Evl
import HandS.TupAny
import HandS.TupMul
import HandS.IsInst
import HandS.Conv
import HandS.Style
import HandS.OwnEq
import HandS.TupSets
import HandS.SortOrd
import HandS.DictComp
import KE.KDictKeyed
import KE.KDictDisplayH
import KE.KDictItemsList
import KE.KDictCopyH
import KE.GoesEnum
import KE.LtData
import KE.SortData
import HandS.TupLen
import KE.GoesMore
import KE.KDictZip
import KE.GoesZip
import KE.KEqDict
import PyProof.InstEq
import PySem.Challenge.RW_fairmasks_k06_whole_fair_habits_by_share
set_option Elab.async false
set_option linter.all false
set_option maxRecDepth 100000
set_option maxHeartbeats 4000000
/-! The data layer: what tuples of ints (nested) bear, whatever addresses they stand at; what an expression comes to, told by its data. -/
namespace FM
open PySem L2 Evl

/-! ### data -/
mutual
/-- the value v bears the data d -/
inductive Tv (K : PySem.W.Frag) (H : Hp) : V → NestedKey → Prop
  | int (i : Int) : Tv K H (.int i) (.num i)
  | tup {a : Addr} {xs : List V} {ks : List NestedKey} : SqT K H a xs → TvA K H xs ks → Tv K H (.ref a) (.tup ks)
inductive TvA (K : PySem.W.Frag) (H : Hp) : List V → List NestedKey → Prop
  | nil : TvA K H [] []
  | cons {v : V} {vs : List V} {k : NestedKey} {ks : List NestedKey} : Tv K H v k → TvA K H vs ks → TvA K H (v :: vs) (k :: ks)
end

/-- tuples are kept -/
def Kp (H H' : Hp) : Prop := ∀ a xs, Rd H a (.tup xs) → Rd H' a (.tup xs)
theorem Kp.refl (H : Hp) : Kp H H := fun _ _ h => h
theorem Kp.trans {H H1 H2 : Hp} (a : Kp H H1) (b : Kp H1 H2) : Kp H H2 := fun x y h => b x y (a x y h)
theorem Kp.ex {H H' : Hp} (e : Ex H H') : Kp H H' := fun _ _ h => ex_rd e h
theorem Kp.upd {H : Hp} {p : Addr} {o : HO} (h : ∀ xs, ¬ Rd H p (.tup xs)) : Kp H (upd H p o) := fun a xs r => by
  have ne : a ≠ p := fun e => h xs (e ▸ r)
  rcases r with r | ⟨u, r⟩
  · exact .inl (by rw [upd_ne ne]; exact r)
  · exact .inr ⟨u, by rw [upd_ne ne]; exact r⟩
theorem nrd_lst {H : Hp} {p : Addr} {xs : List V} (h : H p = some (.lst xs)) : ∀ ys, ¬ Rd H p (.tup ys) := fun ys r => by
  rcases r with r | ⟨u, r⟩ <;> rw [h] at r <;> cases r
theorem nrd_ext {H : Hp} {p : Addr} {φ : Heap → Prop} (h : H p = some (.ext φ)) : ∀ ys, ¬ Rd H p (.tup ys) := fun ys r => by
  rcases r with r | ⟨u, r⟩ <;> rw [h] at r <;> cases r
theorem nrd_none {H : Hp} {p : Addr} (h : H p = none) : ∀ ys, ¬ Rd H p (.tup ys) := fun ys r => by
  rcases r with r | ⟨u, r⟩ <;> rw [h] at r <;> cases r
theorem nrd_ins {H : Hp} {p : Addr} {C dx : Addr} {fs : List (Str × V)} (h : H p = some (.ins C dx fs)) : ∀ ys, ¬ Rd H p (.tup ys) := fun ys r => by
  rcases r with r | ⟨u, r⟩ <;> rw [h] at r <;> cases r
theorem nrd_frz {H : Hp} {p : Addr} {o : Obj} {u : HO} (h : H p = some (.frz o u)) (hu : ∀ ys, u ≠ .tup ys) : ∀ ys, ¬ Rd H p (.tup ys) := fun ys r => by
  rcases r with r | ⟨w, r⟩ <;> rw [h] at r <;> cases r
  exact hu ys rfl
theorem Kp.sqt {K : PySem.W.Frag} {H H' : Hp} {a : Addr} {xs : List V} (e : Kp H H') (h : SqT K H a xs) : SqT K H' a xs := by
  rcases h with h | h
  · exact .inl (e _ _ h)
  · exact .inr h
mutual
theorem Tv.kp {K : PySem.W.Frag} {H H' : Hp} (e : Kp H H') : ∀ {v : V} {d : NestedKey}, Tv K H v d → Tv K H' v d
  | _, _, .int i => .int i
  | _, _, .tup h t => .tup (e.sqt h) (TvA.kp e t)
theorem TvA.kp {K : PySem.W.Frag} {H H' : Hp} (e : Kp H H') : ∀ {vs : List V} {ds : List NestedKey}, TvA K H vs ds → TvA K H' vs ds
  | _, _, .nil => .nil
  | _, _, .cons h t => .cons (Tv.kp e h) (TvA.kp e t)
end
theorem Tv.ex {K : PySem.W.Frag} {H H' : Hp} {v : V} {d : NestedKey} (h : Tv K H v d) (e : Ex H H') : Tv K H' v d := h.kp (.ex e)
theorem TvA.ex {K : PySem.W.Frag} {H H' : Hp} {v : List V} {d : List NestedKey} (h : TvA K H v d) (e : Ex H H') : TvA K H' v d := h.kp (.ex e)
section
variable {K : PySem.W.Frag} {H : Hp}
theorem Tv.num {v : V} {i : Int} (h : Tv K H v (.num i)) : v = .int i := by
  cases h
  rfl
theorem Tv.tupI {v : V} {ks : List NestedKey} (h : Tv K H v (.tup ks)) : ∃ a xs, v = .ref a ∧ SqT K H a xs ∧ TvA K H xs ks := by
  cases h with
  | tup h t => exact ⟨_, _, rfl, h, t⟩
theorem TvA.length : ∀ {xs : List V} {ks : List NestedKey}, TvA K H xs ks → xs.length = ks.length
  | _, _, .nil => rfl
  | _, _, .cons _ t => congrArg (· + 1) (TvA.length t)
theorem TvA.get : ∀ {xs : List V} {ks : List NestedKey} {i : Nat} {v : V}, TvA K H xs ks → xs[i]? = some v → ∃ k, ks[i]? = some k ∧ Tv K H v k
  | _, _, i, v, .nil, e => by simp at e
  | _, _, 0, v, .cons h _, e => by
    simp at e
    subst e
    exact ⟨_, rfl, h⟩
  | _, _, i + 1, v, .cons _ t, e => by
    obtain ⟨k, h1, h2⟩ := TvA.get (i := i) t (by simpa using e)
    exact ⟨k, by simpa using h1, h2⟩
theorem TvA.get' : ∀ {xs : List V} {ks : List NestedKey} {i : Nat} {k : NestedKey}, TvA K H xs ks → ks[i]? = some k → ∃ v, xs[i]? = some v ∧ Tv K H v k
  | _, _, i, v, .nil, e => by simp at e
  | _, _, 0, v, .cons h _, e => by
    simp at e
    subst e
    exact ⟨_, rfl, h⟩
  | _, _, i + 1, v, .cons _ t, e => by
    obtain ⟨k, h1, h2⟩ := TvA.get' (i := i) t (by simpa using e)
    exact ⟨k, by simpa using h1, h2⟩
theorem TvA.append : ∀ {xs ys : List V} {ks ls : List NestedKey}, TvA K H xs ks → TvA K H ys ls → TvA K H (xs ++ ys) (ks ++ ls)
  | _, _, _, _, .nil, h => h
  | _, _, _, _, .cons h t, h' => .cons h (TvA.append t h')
theorem TvA.ints : ∀ ns : List Int, TvA K H (ns.map V.int) (ns.map NestedKey.num)
  | [] => .nil
  | n :: ns => .cons (.int n) (TvA.ints ns)
theorem TvA.intsI : ∀ {xs : List V} {ns : List Int}, TvA K H xs (ns.map NestedKey.num) → xs = ns.map V.int
  | _, [], h => by
    cases h
    rfl
  | _, n :: ns, h => by
    have h' : TvA K H _ (NestedKey.num n :: ns.map NestedKey.num) := h
    cases h' with
    | cons h1 h2 => rw [h1.num, TvA.intsI h2, List.map_cons]
theorem TvA.mem {v : V} : ∀ {xs : List V} {ks : List NestedKey}, TvA K H xs ks → v ∈ xs → ∃ k ∈ ks, Tv K H v k
  | _, _, .nil, h => by cases h
  | _, _, .cons h t, m => by
    rcases List.mem_cons.mp m with e | m
    · exact ⟨_, List.mem_cons_self, e ▸ h⟩
    · obtain ⟨k, hk, hv⟩ := TvA.mem t m
      exact ⟨k, List.mem_cons_of_mem _ hk, hv⟩
end

/-! ### data that are told by Lean's own -/
abbrev eL (ns : List Int) : NestedKey := .tup (ns.map .num)
abbrev eB (b : List Int × List Int) : NestedKey := .tup [eL b.1, eL b.2]
abbrev eF (f : Int × Int) : NestedKey := .tup [.num f.1, .num f.2]
abbrev eP (p : List Int × (Int × Int)) : NestedKey := .tup [eL p.1, eF p.2]
abbrev eR (r : List (List Int × (Int × Int))) : NestedKey := .tup (r.map eP)
theorem num_inj : ∀ {a b : List Int}, a.map NestedKey.num = b.map NestedKey.num → a = b
  | [], [], _ => rfl
  | [], _ :: _, h => by simp at h
  | _ :: _, [], h => by simp at h
  | x :: xs, y :: ys, h => by
    simp only [List.map_cons, List.cons.injEq, NestedKey.num.injEq] at h
    rw [h.1, num_inj h.2]
theorem eL_inj {a b : List Int} (h : eL a = eL b) : a = b := num_inj (NestedKey.tup.inj h)
theorem eB_inj {a b : List Int × List Int} (h : eB a = eB b) : a = b := by
  simp only [NestedKey.tup.injEq, List.cons.injEq, and_true] at h
  exact Prod.ext (num_inj h.1) (num_inj h.2)
theorem eF_inj {a b : Int × Int} (h : eF a = eF b) : a = b := by
  simp only [NestedKey.tup.injEq, List.cons.injEq, NestedKey.num.injEq, and_true] at h
  exact Prod.ext h.1 h.2
theorem eP_inj {a b : List Int × (Int × Int)} (h : eP a = eP b) : a = b := by
  simp only [NestedKey.tup.injEq, List.cons.injEq, and_true] at h
  exact Prod.ext (num_inj h.1) (eF_inj (congrArg NestedKey.tup (by simp [h.2])))
theorem depth_nums : ∀ ns : List Int, NestedKey.depthAll (ns.map .num) = 0
  | [] => rfl
  | n :: ns => by
    show max (NestedKey.depth (.num n)) (NestedKey.depthAll (ns.map .num)) = 0
    rw [depth_nums ns]
    rfl
theorem depth_eL (ns : List Int) : (eL ns).depth = 1 := by
  show NestedKey.depthAll (ns.map .num) + 1 = 1
  rw [depth_nums]
theorem depth_eB (b : List Int × List Int) : (eB b).depth = 2 := by
  show max (NestedKey.depth (eL b.1)) (max (NestedKey.depth (eL b.2)) 0) + 1 = 2
  rw [depth_eL, depth_eL]
  rfl
theorem depth_eF (f : Int × Int) : (eF f).depth = 1 := rfl
theorem depth_eP (p : List Int × (Int × Int)) : (eP p).depth = 2 := by
  show max (NestedKey.depth (eL p.1)) (max (NestedKey.depth (eF p.2)) 0) + 1 = 2
  rw [depth_eL, depth_eF]
  rfl
theorem depthAll_le {α : Type} {f : α → NestedKey} {n : Nat} (h : ∀ a, (f a).depth ≤ n) : ∀ l : List α, NestedKey.depthAll (l.map f) ≤ n
  | [] => Nat.zero_le _
  | a :: l => by
    show max (f a).depth (NestedKey.depthAll (l.map f)) ≤ n
    exact Nat.max_le.mpr ⟨h a, depthAll_le h l⟩
theorem depth_eR (r : List (List Int × (Int × Int))) : (eR r).depth ≤ 3 := by
  show NestedKey.depthAll (r.map eP) + 1 ≤ 3
  have := depthAll_le (f := eP) (n := 2) (fun a => Nat.le_of_eq (depth_eP a)) r
  omega
theorem depth_eRs (rs : List (List (List Int × (Int × Int)))) : (NestedKey.tup (rs.map eR)).depth ≤ 4 := by
  show NestedKey.depthAll (rs.map eR) + 1 ≤ 4
  have := depthAll_le (f := eR) (n := 3) depth_eR rs
  omega
section
variable {K : PySem.W.Frag} {H : Hp}
theorem Tv.intsI {v : V} {ns : List Int} (h : Tv K H v (eL ns)) : ∃ a, v = .ref a ∧ SqT K H a (ns.map V.int) := by
  obtain ⟨a, xs, rfl, h1, h2⟩ := h.tupI
  rw [h2.intsI] at h1
  exact ⟨a, rfl, h1⟩
theorem Tv.ints {a : Addr} {ns : List Int} (h : SqT K H a (ns.map V.int)) : Tv K H (.ref a) (eL ns) := .tup h (TvA.ints ns)
end

/-! ### data in the raw heap -/
section
variable {X : Cx} {pins : List (Addr × Obj)} {σ : L2.St} {H : Hp} {s : Shared}
mutual
theorem Tv.is (I : Inv X pins σ H s) : ∀ (d : NestedKey) (v : V) (u : Value), Tv X.K H v d → RelV v u → NestedIs s.heap d u
  | .none, _, _, h, _ => by cases h
  | .text _, _, _, h, _ => by cases h
  | .num i, _, _, h, r => by
    cases h
    obtain ⟨t, rfl⟩ := r
    exact .int i t
  | .tup ks, _, _, h, r => by
    cases h with
    | tup hs ha =>
      cases r
      obtain ⟨its, rv, ⟨o, ho, hc, n, hd⟩, _⟩ := I.tuple hs
      exact .tup ho hc hd (by simpa using TvA.is I ks _ its ha rv)
theorem TvA.is (I : Inv X pins σ H s) : ∀ (ds : List NestedKey) (vs : List V) (us : List Value), TvA X.K H vs ds → Vals vs us → NestedAll s.heap ds us
  | [], _, _, h, r => by
    cases h
    cases r
    exact .nil
  | d :: ds, _, _, h, r => by
    cases h with
    | cons h1 h2 =>
      cases r with
      | cons r1 r2 => exact .cons (Tv.is I d _ _ h1 r1) (TvA.is I ds _ _ h2 r2)
end
end
mutual
theorem Tv.dp {K : PySem.W.Frag} {H : Hp} : ∀ {v : V} {d : NestedKey}, Tv K H v d → Dp K H v d.data
  | _, _, .int i => .int i
  | _, _, .tup h t => .tup h (TvA.dp t)
theorem TvA.dp {K : PySem.W.Frag} {H : Hp} : ∀ {vs : List V} {ds : List NestedKey}, TvA K H vs ds → DpAll K H vs (NestedKey.datas ds)
  | _, _, .nil => .nil
  | _, _, .cons h t => .cons (Tv.dp h) (TvA.dp t)
end
mutual
theorem Tv.lay {K : PySem.W.Frag} {H : Hp} : ∀ {v : V} {d : NestedKey}, Tv K H v d → d.data.canLay0 = true
  | _, _, .int i => rfl
  | _, _, .tup h t => by
    show PyData.canLayAll0 (NestedKey.datas _) = true
    exact TvA.lay t
theorem TvA.lay {K : PySem.W.Frag} {H : Hp} : ∀ {vs : List V} {ds : List NestedKey}, TvA K H vs ds → PyData.canLayAll0 (NestedKey.datas ds) = true
  | _, _, .nil => rfl
  | _, _, .cons h t => by
    show (PyData.canLay0 _ && PyData.canLayAll0 _) = true
    rw [Tv.lay h, TvA.lay t]
    rfl
end
mutual
theorem data_depth : ∀ d : NestedKey, d.data.depth = d.depth
  | .none => rfl
  | .num _ => rfl
  | .text _ => rfl
  | .tup ks => by
    show PyData.depth (.tuple (NestedKey.datas ks)) = NestedKey.depthAll ks + 1
    rw [PyData.depth, datas_depth ks]
    try omega
theorem datas_depth : ∀ ds : List NestedKey, PyData.depthAll (NestedKey.datas ds) = NestedKey.depthAll ds
  | [] => rfl
  | d :: ds => by
    show PyData.depthAll (d.data :: NestedKey.datas ds) = max d.depth (NestedKey.depthAll ds)
    rw [PyData.depthAll, data_depth d, datas_depth ds]
end
theorem beq_num (a b : Int) : (a == b) = decide (a = b) := by
  by_cases h : a = b
  · subst h; simp
  · simp [h]
mutual
theorem Tv.eqv {K K' : PySem.W.Frag} {H H' : Hp} : ∀ {v w : V} {d e : NestedKey}, Tv K H v d → Tv K' H' w e → PyData.eqv d.data e.data = NestedKey.beq d e
  | _, _, _, _, .int i, .int j => by
    show (i == j) = decide (i = j)
    exact beq_num i j
  | _, _, _, _, .int i, .tup _ _ => rfl
  | _, _, _, _, .tup _ _, .int _ => rfl
  | _, _, _, _, .tup _ t, .tup _ t' => by
    show PyData.eqvAll _ _ = NestedKey.beqAll _ _
    exact TvA.eqv t t'
theorem TvA.eqv {K K' : PySem.W.Frag} {H H' : Hp} : ∀ {vs ws : List V} {ds es : List NestedKey}, TvA K H vs ds → TvA K' H' ws es → PyData.eqvAll (NestedKey.datas ds) (NestedKey.datas es) = NestedKey.beqAll ds es
  | _, _, _, _, .nil, .nil => rfl
  | _, _, _, _, .nil, .cons _ _ => rfl
  | _, _, _, _, .cons _ _, .nil => rfl
  | _, _, _, _, .cons h t, .cons h' t' => by
    show (PyData.eqv _ _ && PyData.eqvAll _ _) = (NestedKey.beq _ _ && NestedKey.beqAll _ _)
    rw [Tv.eqv h h', TvA.eqv t t']
end
end FM
/-! Dicts whose keys are nested tuples, over the layer: what stands at such a dict's address; [], []=, in, setdefault, len, clear, {}. -/
namespace FM
open PySem PySem.Spec PyProof.Rows L2 Evl

/-- an entry: the key, the address of the key's own tuple, the value -/
abbrev Ent := NestedKey × Addr × V
abbrev ER : List Ent → List (NestedKey × Addr × Value) → Prop := Paired fun p q => p.1 = q.1 ∧ p.2.1 = q.2.1 ∧ RelV p.2.2 q.2.2
def atE (l : List Ent) (k : NestedKey) : Option (Addr × V) := (l.find? fun x => decide (x.1 = k)).map (·.2)
def putE (l : List Ent) (k : NestedKey) (b : Addr) (v : V) : List Ent := if (atE l k).isSome then l.map (fun x => if x.1 = k then (x.1, x.2.1, v) else x) else l ++ [(k, b, v)]
/-- the pairs of the entries -/
def prs (l : List Ent) : List (NestedKey × V) := l.map fun x => (x.1, x.2.2)
theorem atE_pos {l : List Ent} {p : Ent} {k : NestedKey} (h : p.1 = k) : atE (p :: l) k = some p.2 := by simp [atE, List.find?_cons, h]
theorem atE_neg {l : List Ent} {p : Ent} {k : NestedKey} (h : ¬ p.1 = k) : atE (p :: l) k = atE l k := by simp [atE, List.find?_cons, h]
theorem ER.val {l : List Ent} {xs : List (NestedKey × Addr × Value)} (r : ER l xs) (k : NestedKey) : RelO ((atE l k).map (·.2)) ((atKey xs k).map (·.2)) := by
  induction r with
  | nil => exact True.intro
  | @cons p q ps qs h t ih =>
    obtain ⟨h1, _, h2⟩ := h
    by_cases e : p.1 = k
    · have e' : q.1 = k := h1.symm.trans e
      have b : atKey (q :: qs) k = some q.2 := by simp [atKey, List.find?_cons, e']
      rw [atE_pos e, b]
      exact h2
    · have e' : ¬ q.1 = k := fun z => e (h1.trans z)
      have b : atKey (q :: qs) k = atKey qs k := by simp [atKey, List.find?_cons, e']
      rw [atE_neg e, b]
      exact ih
theorem ER.isSome {l : List Ent} {xs : List (NestedKey × Addr × Value)} (r : ER l xs) (k : NestedKey) : (atE l k).isSome = (atKey xs k).isSome := by
  have h := (r.val k).isSome_eq
  rw [Option.isSome_map, Option.isSome_map] at h
  exact h
theorem ER.repl {l : List Ent} {xs : List (NestedKey × Addr × Value)} (r : ER l xs) (k : NestedKey) {y : V} {u : Value} (ry : RelV y u) :
    ER (l.map fun x => if x.1 = k then (x.1, x.2.1, y) else x) (xs.map (putAt k u)) := by
  induction r with
  | nil => exact .nil
  | @cons p q ps qs h t ih =>
    rw [List.map_cons, List.map_cons]
    refine .cons ?_ ih
    obtain ⟨h1, h2, h3⟩ := h
    unfold putAt
    by_cases e : p.1 = k
    · rw [if_pos e, if_pos (h1.symm.trans e)]
      exact ⟨h1, h2, ry⟩
    · rw [if_neg e, if_neg (fun z => e (h1.trans z))]
      exact ⟨h1, h2, h3⟩
theorem ER.put {l : List Ent} {xs : List (NestedKey × Addr × Value)} (r : ER l xs) (k : NestedKey) (b : Addr) {y : V} {u : Value} (ry : RelV y u) : ER (putE l k b y) (storedH xs k b u) := by
  unfold putE storedH
  rw [r.isSome k]
  by_cases q : (atKey xs k).isSome = true
  · rw [if_pos q, if_pos q]
    exact r.repl k ry
  · rw [if_neg q, if_neg q]
    exact Paired.snoc r ⟨rfl, rfl, ry⟩
theorem valV_prs (l : List Ent) (k : NestedKey) : valV (prs l) k = (atE l k).map (·.2) := by
  induction l with
  | nil => rfl
  | cons p l ih =>
    by_cases e : p.1 = k
    · rw [atE_pos e]
      show valV ((p.1, p.2.2) :: prs l) k = _
      rw [valV_pos e]
      rfl
    · rw [atE_neg e]
      show valV ((p.1, p.2.2) :: prs l) k = _
      rw [valV_neg e]
      exact ih
theorem prs_put (l : List Ent) (k : NestedKey) (b : Addr) (v : V) : prs (putE l k b v) = putK (prs l) k v := by
  have ha : ((prs l).any fun kv => decide (kv.1 = k)) = (atE l k).isSome := by
    rw [valV_any, valV_prs, Option.isSome_map]
  unfold putE putK
  rw [ha]
  by_cases q : (atE l k).isSome = true
  · rw [if_pos q, if_pos q]
    unfold prs
    rw [List.map_map, List.map_map]
    refine List.map_congr_left fun x _ => ?_
    show (((if x.1 = k then (x.1, x.2.1, v) else x) : Ent).1, ((if x.1 = k then (x.1, x.2.1, v) else x) : Ent).2.2) = if x.1 = k then (x.1, v) else (x.1, x.2.2)
    by_cases e : x.1 = k
    · rw [if_pos e, if_pos e]
    · rw [if_neg e, if_neg e]
  · rw [if_neg q, if_neg q]
    unfold prs
    rw [List.map_append]
    rfl
theorem putE_len (l : List Ent) (k : NestedKey) (b : Addr) (v : V) : (putE l k b v).length ≤ l.length + 1 := by
  unfold putE
  split
  · rw [List.length_map]
    omega
  · rw [List.length_append, List.length_cons, List.length_nil]
    omega

/-! ### the object -/
def NDφ (P : Program) (w : World) (a : Addr) (l : List Ent) : Heap → Prop := fun h =>
  l.length ≤ sizeLine ∧ (a == sysModules) = false ∧ ∃ xs, ER l xs ∧ ∃ o es ep, h.get? a = some o ∧ o.ExactDict ∧ o.data = .dict es ep ∧ es.toList = xs.map (entryOfKey (nestedKind P w)) ∧ (xs.map (·.1)).Nodup
/-- a dict of nested keys stands at a -/
def NDO (P : Program) (w : World) (a : Addr) (l : List Ent) : HO := .ext (NDφ P w a l)
/-- its keys' tuples bear its keys -/
def Dk (K : PySem.W.Frag) (H : Hp) (l : List Ent) : Prop := ∀ e ∈ l, Tv K H (.ref e.2.1) e.1 ∧ e.1.depth ≤ 8
theorem Dk.kp {K : PySem.W.Frag} {H H' : Hp} {l : List Ent} (h : Dk K H l) (e : Kp H H') : Dk K H' l := fun x hx => ⟨(h x hx).1.kp e, (h x hx).2⟩
theorem Dk.put {K : PySem.W.Frag} {H : Hp} {l : List Ent} (h : Dk K H l) {k : NestedKey} {b : Addr} (v : V) (hb : Tv K H (.ref b) k) (hd : k.depth ≤ 8) : Dk K H (putE l k b v) := by
  intro x hx
  unfold putE at hx
  split at hx
  · obtain ⟨y, hy, e⟩ := List.mem_map.mp hx
    by_cases q : y.1 = k
    · rw [if_pos q] at e
      subst e
      exact h y hy
    · rw [if_neg q] at e
      subst e
      exact h y hy
  · rcases List.mem_append.mp hx with hx | hx
    · exact h x hx
    · rw [List.mem_singleton] at hx
      subst hx
      exact ⟨hb, hd⟩
/-- to be read: a dict of the pairs kvs -/
def Dr (P : Program) (w : World) (K : PySem.W.Frag) (H : Hp) (a : Addr) (kvs : List (NestedKey × V)) : Prop := ∃ l, Rd H a (NDO P w a l) ∧ Dk K H l ∧ prs l = kvs
/-- to be read and written -/
def Dm (P : Program) (w : World) (K : PySem.W.Frag) (H : Hp) (a : Addr) (kvs : List (NestedKey × V)) : Prop := ∃ l, H a = some (NDO P w a l) ∧ Dk K H l ∧ prs l = kvs
theorem Dm.r {P : Program} {w : World} {K : PySem.W.Frag} {H : Hp} {a : Addr} {kvs : List (NestedKey × V)} (h : Dm P w K H a kvs) : Dr P w K H a kvs := let ⟨l, h1, h2, h3⟩ := h; ⟨l, .inl h1, h2, h3⟩
theorem Dr.ex {P : Program} {w : World} {K : PySem.W.Frag} {H H' : Hp} {a : Addr} {kvs : List (NestedKey × V)} (h : Dr P w K H a kvs) (e : Ex H H') : Dr P w K H' a kvs :=
  let ⟨l, h1, h2, h3⟩ := h; ⟨l, ex_rd e h1, h2.kp (.ex e), h3⟩
theorem Dm.ex {P : Program} {w : World} {K : PySem.W.Frag} {H H' : Hp} {a : Addr} {kvs : List (NestedKey × V)} (h : Dm P w K H a kvs) (e : Ex H H') : Dm P w K H' a kvs :=
  let ⟨l, h1, h2, h3⟩ := h; ⟨l, e _ _ h1, h2.kp (.ex e), h3⟩
theorem Dm.some {P : Program} {w : World} {K : PySem.W.Frag} {H : Hp} {a : Addr} {kvs : List (NestedKey × V)} (h : Dm P w K H a kvs) : ∃ φ, H a = some (.ext φ) := let ⟨l, h1, _, _⟩ := h; ⟨_, h1⟩
theorem Dm.kp {P : Program} {w : World} {K : PySem.W.Frag} {H : Hp} {a : Addr} {kvs : List (NestedKey × V)} (h : Dm P w K H a kvs) (o : HO) : Kp H (upd H a o) := let ⟨φ, e⟩ := h.some; Kp.upd (nrd_ext e)
/-- another object is written -/
theorem Dm.upd {P : Program} {w : World} {K : PySem.W.Frag} {H : Hp} {a b : Addr} {o : HO} {kvs : List (NestedKey × V)} (h : Dm P w K H a kvs) (n : a ≠ b) (e : Kp H (upd H b o)) : Dm P w K (upd H b o) a kvs :=
  let ⟨l, h1, h2, h3⟩ := h; ⟨l, by rw [upd_ne n]; exact h1, h2.kp e, h3⟩
theorem Dr.upd {P : Program} {w : World} {K : PySem.W.Frag} {H : Hp} {a b : Addr} {o : HO} {kvs : List (NestedKey × V)} (h : Dr P w K H a kvs) (n : a ≠ b) (e : Kp H (upd H b o)) : Dr P w K (upd H b o) a kvs :=
  let ⟨l, h1, h2, h3⟩ := h; ⟨l, h1.elim (fun h1 => .inl (by rw [upd_ne n]; exact h1)) (fun ⟨u, h1⟩ => .inr ⟨u, by rw [upd_ne n]; exact h1⟩), h2.kp e, h3⟩

section
variable {P : Program} {w : World} {H : Hp} {h : Heap} {a : Addr} {l : List Ent}
theorem nd_obj {h' : Heap} {H' : Hp} {xs : List (NestedKey × Addr × Value)} (z : l.length ≤ sizeLine) (hd : (a == sysModules) = false) (r : ER l xs) (dd : h'.DictOfH (nestedKind P w) a xs) : ObjOk P w H' h' a (NDO P w a l) := by
  obtain ⟨o, es, ep, h1, h2, h3, h4, _, h5⟩ := dd
  refine ⟨⟨z, hd, xs, r, o, es, ep, h1, h2, h3, h4, h5⟩, ⟨o, h1⟩, fun ha hb p q => ?_⟩
  obtain ⟨z, hd, xs, r, o, es, ep, h1, h2, h3, h4, h5⟩ := p
  exact ⟨z, hd, xs, r, o, es, ep, q o h1, h2, h3, h4, h5⟩
theorem ER.mem {l : List Ent} {xs : List (NestedKey × Addr × Value)} (r : ER l xs) : ∀ y ∈ xs, ∃ e ∈ l, e.1 = y.1 ∧ e.2.1 = y.2.1 ∧ RelV e.2.2 y.2.2 := by
  induction r with
  | nil => intro y hy; exact nomatch hy
  | @cons p q ps qs h t ih =>
    intro y hy
    rcases List.mem_cons.mp hy with e | hy
    · subst e
      exact ⟨p, List.mem_cons_self, h⟩
    · obtain ⟨e, he, q⟩ := ih y hy
      exact ⟨e, List.mem_cons_of_mem _ he, q⟩
end
section
variable {X : Cx} {pins : List (Addr × Obj)} {σ : L2.St} {H : Hp} {s : Shared} {a : Addr} {l : List Ent}
theorem nd_key (I : Inv X pins σ H s) {b : Addr} {k : NestedKey} (h : Tv X.K H (.ref b) k) (hd : k.depth ≤ 8) : (nestedKind X.prog X.w).is s.heap k b := ⟨Tv.is I k _ _ h rfl, hd⟩
theorem nd_raw (I : Inv X pins σ H s) (h : Rd H a (NDO X.prog X.w a l)) (hk : Dk X.K H l) : l.length ≤ sizeLine ∧ (a == sysModules) = false ∧ ∃ xs, ER l xs ∧ s.heap.DictOfH (nestedKind X.prog X.w) a xs := by
  obtain ⟨⟨z, hd, xs, r, o, es, ep, h1, h2, h3, h4, h5⟩, _⟩ := h.ok I.hok
  refine ⟨z, hd, xs, r, o, es, ep, h1, h2, h3, h4, fun y hy => ?_, h5⟩
  obtain ⟨e, he, e1, e2, _⟩ := r.mem y hy
  rw [← e1, ← e2]
  exact nd_key I (hk e he).1 (hk e he).2
theorem nd_type (I : Inv X pins σ H s) (h : Rd H a (NDO X.prog X.w a l)) : s.TypeIs (.ref a) "dict" ∧ (∀ b, Value.ref a = .ref b → ∃ ob, s.heap.get? b = some ob ∧ ob.dict = none) ∧ (a == sysModules) = false := by
  obtain ⟨⟨z, hd, xs, r, o, es, ep, h1, h2, _⟩, _⟩ := h.ok I.hok
  refine ⟨⟨o, h1, h2.1⟩, fun b q => ?_, hd⟩
  cases q
  exact ⟨o, h1, h2.2.1⟩
/-- the dict's object is replaced -/
theorem nd_write {l' : List Ent} {h' : Heap} {t' : Nat} {xs : List (NestedKey × Addr × Value)} (I : Inv X pins σ H s) (h : H a = some (NDO X.prog X.w a l)) (hs : Heap.SameBut a s.heap h') (z : l'.length ≤ sizeLine) (hd : (a == sysModules) = false) (r : ER l' xs)
    (dd : h'.DictOfH (nestedKind X.prog X.w) a xs) : Inv X pins σ (upd H a (NDO X.prog X.w a l')) { s with heap := h', toks := t' } := by
  have he : ∃ q, h'.get? a = some q := let ⟨q, _, _, hq, _⟩ := dd; ⟨q, hq⟩
  exact I.write (x := a) (e := a) (by rw [h]; exact True.intro) (.inl rfl) (fun b q hb z => (hs.2 b hb).trans z) he (nd_obj z hd r dd)
end

/-! ### rules by values -/
section
variable {X : Cx}
/-- k in d -/
def rNdIn (P : Program) (w : World) (K : PySem.W.Frag) (neg : Bool) : R2 := fun x y H Q => ∃ a kvs ks, y = .ref a ∧ Dr P w K H a kvs ∧ Tv K H x (.tup ks) ∧ (NestedKey.tup ks).depth ≤ 8 ∧ Q (.bl (if neg then !(valV kvs (.tup ks)).isSome else (valV kvs (.tup ks)).isSome)) H
theorem op_ndIn (hu : X.A.units + 9 < cLine) : OpR X (compareOp .In) (rNdIn X.prog X.w X.K false) := by
  intro pins s σ H x y v u Q I rx ry h
  obtain ⟨a, kvs, ks, rfl, ⟨l, hr, hk, rfl⟩, hx, hd, q⟩ := h
  obtain ⟨b, _, rfl, _, _⟩ := hx.tupI
  cases rx
  cases ry
  obtain ⟨z, hm, xs, r, dd⟩ := nd_raw I hr hk
  refine wpAny_in_heap (knd := nestedKind X.prog X.w) (by show X.A.units + 1 + 8 < cLine; omega) (nd_key I hx hd) hm dd ?_
  refine ⟨.bl _, H, I.tok _, rfl, ?_⟩
  rw [valV_prs, Option.isSome_map, r.isSome] at q
  exact q
theorem op_ndNotIn (hu : X.A.units + 9 < cLine) : OpR X (compareOp .NotIn) (rNdIn X.prog X.w X.K true) := by
  intro pins s σ H x y v u Q I rx ry h
  obtain ⟨a, kvs, ks, rfl, ⟨l, hr, hk, rfl⟩, hx, hd, q⟩ := h
  obtain ⟨b, _, rfl, _, _⟩ := hx.tupI
  cases rx
  cases ry
  obtain ⟨z, hm, xs, r, dd⟩ := nd_raw I hr hk
  refine wpAny_notIn_heap (knd := nestedKind X.prog X.w) (by show X.A.units + 1 + 8 < cLine; omega) (nd_key I hx hd) hm dd ?_
  refine ⟨.bl _, H, I.tok _, rfl, ?_⟩
  rw [valV_prs, Option.isSome_map, r.isSome] at q
  exact q
/-- d[k] -/
def rNdGet (P : Program) (w : World) (K : PySem.W.Frag) : R2 := fun x y H Q => ∃ a kvs ks v, x = .ref a ∧ Dr P w K H a kvs ∧ Tv K H y (.tup ks) ∧ (NestedKey.tup ks).depth ≤ 8 ∧ valV kvs (.tup ks) = some v ∧ Q v H
theorem pe_ndGet {o i : Expr} {td ty : TE} {pos : Pos} (hu : X.A.units + 9 < cLine) (ho : PE X o td) (hi : PE X i ty) (hs : NoSl i) : PE X (.Subscript o i pos) (tOp (rNdGet X.prog X.w X.K) td ty) := by
  refine ⟨fun pins s σ H Q I h => ?_⟩
  refine subD_of PySem.F.slot_dict_getitem.lookup hs (thn (ho.run pins s σ H _ I h) fun u s1 ⟨x, H1, I1, rx, q1⟩ => thn (hi.run pins s1 σ H1 _ I1 q1) fun iv s2 ⟨y, H2, I2, ry, a, kvs, ks, v, ex, ⟨l, hr, hk, el⟩, hy, hd, hv, q⟩ => ?_)
  subst ex el
  obtain ⟨b, _, rfl, _, _⟩ := hy.tupI
  cases rx
  cases ry
  obtain ⟨z, hm, xs, r, dd⟩ := nd_raw I2 hr hk
  refine ⟨(nd_type I2 hr).1, ?_⟩
  rw [valV_prs] at hv
  have rv := r.val (.tup ks)
  rw [hv] at rv
  obtain ⟨w', hw, rw'⟩ := RelO.some_of (v := v) (o := (atKey xs (.tup ks)).map (·.2)) rv
  obtain ⟨p, hp, hp2⟩ := Option.map_eq_some_iff.mp hw
  refine wpAny_getItem_heap (knd := nestedKind X.prog X.w) (by show X.A.units + 1 + 8 < cLine; omega) (nd_key I2 hy hd) dd hp ?_
  rw [hp2]
  exact ⟨v, H2, I2.tok _, rw', q⟩
/-- d[k] = v -/
def sNdPut (P : Program) (w : World) (K : PySem.W.Frag) (td ty tv : TE) : TS := fun D σ H => tv σ H fun v H1 => td σ H1 fun x H2 => ty σ H2 fun y H3 => ∃ a l ks b, x = .ref a ∧ H3 a = some (NDO P w a l) ∧ Dk K H3 l ∧ y = .ref b ∧ Tv K H3 y (.tup ks) ∧
  (NestedKey.tup ks).depth ≤ 8 ∧ l.length < sizeLine ∧ D.nx σ (upd H3 a (NDO P w a (putE l (.tup ks) b v)))
theorem ps_ndPut {o i value : Expr} {td ty tv : TE} {pos pos' : Pos} (hu : X.A.units + 9 < cLine) (ho : PE X o td) (hi : PE X i ty) (hv : PE X value tv) (hs : swapsWith value (some (.Subscript o i pos')) pos.line X.env = pure false) :
    PS X (.Assign [.Subscript o i pos'] value pos) (sNdPut X.prog X.w X.K td ty tv) := by
  refine ⟨fun pins s σ H D I h => ?_⟩
  refine wpAny_Assign_Subscript (thn (hv.run pins s σ H _ I h) fun r s1 ⟨v, H1, I1, rv, q1⟩ => thn (ho.run pins s1 σ H1 _ I1 q1) fun u s2 ⟨x, H2, I2, rx, q2⟩ => thn (hi.run pins s2 σ H2 _ I2 q2) fun iv s3 ⟨y, H3, I3, ry, a, l, ks, b, ex, ea, hk, ey, hy, hd, hz, q3⟩ => ?_) hs
  subst ex ey
  cases rx
  cases ry
  obtain ⟨z, hm, xs, r2, dd⟩ := nd_raw I3 (.inl ea) hk
  refine wpAny_setItem_heap (knd := nestedKind X.prog X.w) (hsz := by rw [← Paired.length r2]; exact z) (by show X.A.units + 1 + 8 < cLine; omega) (nd_key I3 hy hd) dd fun h' dd' hs => ?_
  refine ⟨σ, _, nd_write I3 ea hs ?_ hm (r2.put _ b rv) dd', q3⟩
  have := putE_len l (.tup ks) b v
  omega
/-- d[k] = v within a comprehension -/
theorem nd_dictSet {pins : List (Addr × Obj)} {σ : L2.St} {H : Hp} {s : Shared} {E : Value → Shared → Prop} {a : Addr} {l : List Ent} {ks : List NestedKey} {b : Addr} {v : V} {u r : Value} {Q : Unit → Shared → Prop} (hu : X.A.units + 9 < cLine) (I : Inv X pins σ H s) (ea : H a = some (NDO X.prog X.w a l)) (hk : Dk X.K H l) (hz : l.length < sizeLine)
    (hb : Tv X.K H (.ref b) (.tup ks)) (hd : (NestedKey.tup ks).depth ≤ 8) (rb : RelV (.ref b) u) (rv : RelV v r) (h : ∀ s', Inv X pins σ (upd H a (NDO X.prog X.w a (putE l (.tup ks) b v))) s' → Q () s') : wpAny (model X.prog X.w) X.A (dictSet a u r) Q E s := by
  cases rb
  obtain ⟨z, hm, xs, r2, dd⟩ := nd_raw I (.inl ea) hk
  refine wpAny_dictSet_heap (knd := nestedKind X.prog X.w) (hsz := by rw [← Paired.length r2]; exact z) (by show X.A.units + 8 < cLine; omega) (nd_key I hb hd) dd fun h' dd' hs => h _ ?_
  refine nd_write I ea hs ?_ hm (r2.put _ b rv) dd'
  have := putE_len l (.tup ks) b v
  omega
/-- d.setdefault(k, x) -/
def rNdSetd (P : Program) (w : World) (K : PySem.W.Frag) : V → List V → Hp → VK → Prop := fun x xs H Q => ∃ a l ks b y, x = .ref a ∧ xs = [.ref b, y] ∧ H a = some (NDO P w a l) ∧ Dk K H l ∧ Tv K H (.ref b) (.tup ks) ∧ (NestedKey.tup ks).depth ≤ 8 ∧ l.length < sizeLine ∧
  (∀ v, valV (prs l) (.tup ks) = some v → Q v H) ∧ (valV (prs l) (.tup ks) = none → Q y (upd H a (NDO P w a (putE l (.tup ks) b y))))
theorem mt_ndSetd (hu : X.A.units + 9 < cLine) : MtR X "dict.setdefault" (rNdSetd X.prog X.w X.K) := by
  intro pins s σ H x xs v us Q I rx rxs h
  obtain ⟨a, l, ks, b, y, rfl, rfl, ea, hk, hb, hd, hz, q1, q2⟩ := h
  obtain ⟨ub, uy, rfl, rb, ry⟩ := rxs.two
  cases rx
  cases rb
  obtain ⟨z, hm, xs, r2, dd⟩ := nd_raw I (.inl ea) hk
  refine call_setdefault_heap (knd := nestedKind X.prog X.w) (hsz := by rw [← Paired.length r2]; exact z) (by show X.A.units + 1 + 8 < cLine; omega) (nd_key I hb hd) hm dd (fun p hp => ?_) fun hn h' dd' hs => ?_
  · have rv := r2.val (.tup ks)
    rw [hp] at rv
    cases e : (atE l (.tup ks)).map (·.2) with
    | none =>
      rw [e] at rv
      exact rv.elim
    | some v =>
      rw [e] at rv
      exact ⟨v, H, I.tok _, rv, q1 v (by rw [valV_prs]; exact e)⟩
  · have e0 := r2.isSome (.tup ks)
    rw [hn] at e0
    refine ⟨y, _, nd_write I ea hs ?_ hm (r2.put _ b ry) dd', ry, q2 ?_⟩
    · have := putE_len l (.tup ks) b y
      omega
    · rw [valV_prs]
      cases e : atE l (.tup ks) with
      | none => rfl
      | some v =>
        rw [e] at e0
        cases e0
/-- d.clear() -/
def rNdClear (P : Program) (w : World) : V → List V → Hp → VK → Prop := fun x xs H Q => ∃ a l, x = .ref a ∧ xs = [] ∧ H a = some (NDO P w a l) ∧ Q .non (upd H a (NDO P w a []))
end
end FM
/-! Dicts of nested keys, on: clear, len, {}, {k: v}, methods called, walks over the keys, list of the values. -/
namespace FM
open PySem PySem.Spec PyProof.Rows L2 Evl

section
variable {X : Cx}
theorem mt_ndClear : MtR X "dict.clear" (rNdClear X.prog X.w) := by
  intro pins s σ H x xs v us Q I rx rxs h
  obtain ⟨a, l, rfl, rfl, ea, q⟩ := h
  cases rx
  cases rxs
  obtain ⟨⟨z, hd, xs, r, o, es, ep, h1, h2, h3, h4, h5⟩, _⟩ := (show ObjOk X.prog X.w H s.heap a (NDO X.prog X.w a l) from I.hok a _ ea)
  have hr : s.heap.DictRaw a es ep := ⟨o, h1, h2, h3⟩
  have hsz : es.size = l.length := by
    rw [size_of_entries h4]
    exact (Paired.length r).symm
  refine call_meetsIn PySem.F.slot_dict_clear hr.typeIs PySem.F.entry_dict_clear (PySem.F.args_dict_clear_1 _) (meets_dict_clear_raw a) ⟨es, ep, hr, by rw [hsz]; exact z, fun h' hr' hs' => ?_⟩
  obtain ⟨o', g1, g2, g3⟩ := hr'
  exact ⟨.non, _, nd_write (t' := s.toks) (l' := []) I ea hs' (Nat.zero_le _) hd .nil ⟨o', #[], ep + 1, g1, g2, g3, rfl, fun _ hx => (nomatch hx), List.nodup_nil⟩, rfl, q⟩
theorem call_ndLen : CallR X (.builtin "len") (fun xs H Q => ∃ a kvs, xs = [.ref a] ∧ Dr X.prog X.w X.K H a kvs ∧ Q (.int ((kvs.length : Nat) : Int)) H) := by
  intro pins s σ H xs us Q I r h
  obtain ⟨a, kvs, rfl, ⟨l, hr, hk, rfl⟩, q⟩ := h
  obtain ⟨u, rfl, rx⟩ := vals1 r
  obtain rfl : u = .ref a := rx
  obtain ⟨z, hd, ys, rel, dd⟩ := nd_raw I hr hk
  have hl : l.length = ys.length := Paired.length rel
  refine call_len_dictH hd dd (by rw [← hl]; rw [sizeLine_eq] at z; omega) ?_
  rw [← hl]
  have e : (prs l).length = l.length := by unfold prs; rw [List.length_map]
  rw [e] at q
  exact ⟨.int ((l.length : Nat) : Int), H, I.tok _, ⟨_, rfl⟩, q⟩
/-- {} -/
theorem nd_empty {P : Program} {w : World} {H : Hp} (h : Heap) (hb : sysModules < h.objs.size) : ObjOk P w H (h.push { cls := .type "dict", data := .dict #[] }) h.objs.size (NDO P w h.objs.size []) :=
  nd_obj (Nat.zero_le _) (beq_eq_false_iff_ne.mpr (Ne.symm (Nat.ne_of_lt hb))) .nil (Heap.DictOfH.new h)
def tNdNew (P : Program) (w : World) : TE := fun _ H Q => ∀ p, H p = none → Q (.ref p) (upd H p (NDO P w p []))
theorem pe_ndNew {pos : Pos} : PE X (.Dict [] [] pos) (tNdNew X.prog X.w) := ⟨fun pins s σ H Q I h =>
  wpAny_Dict_empty ⟨.ref s.heap.objs.size, _, I.laid (a := s.heap.objs.size) (o := NDO X.prog X.w s.heap.objs.size []) (t' := s.toks) (fun _ _ q => Heap.get?_push_of_some _ q) (Nat.le_refl _) (nd_empty s.heap I.big), rfl, h _ (I.hok.fresh (Nat.le_refl _))⟩⟩
/-- {k: v} -/
def tNdOne (P : Program) (w : World) (K : PySem.W.Frag) (tk tv : TE) : TE := fun σ H Q => ∀ p, H p = none → tPairs [(tk, tv)] σ (upd H p (NDO P w p [])) fun ps H2 => H2 p = some (NDO P w p []) ∧ ∃ ks b v, ps = [(.ref b, v)] ∧ Tv K H2 (.ref b) (.tup ks) ∧ (NestedKey.tup ks).depth ≤ 8 ∧
  Q (.ref p) (upd H2 p (NDO P w p [(.tup ks, b, v)]))
theorem pe_ndOne {k v : Expr} {pos : Pos} {tk tv : TE} (hu : X.A.units + 9 < cLine) (h : PPs X pos [some k] [v] [(tk, tv)])
    (hshape : (evalEachOpt [some k] X.env).zip ((evalEach [v] X.env).map fun v => do let x ← v; standAt pos; pure x) = (pairTrees [some k] [v] X.env pos).map fun p => (some p.1, p.2) := by rfl) (hlen : (pairTrees [some k] [v] X.env pos).length = 1 := by rfl) :
    PE X (.Dict [some k] [v] pos) (tNdOne X.prog X.w X.K tk tv) := by
  refine ⟨fun pins s σ H Q I q => ?_⟩
  have hn := I.hok.fresh (Nat.le_refl s.heap.objs.size)
  have I1 := I.laid (a := s.heap.objs.size) (o := NDO X.prog X.w s.heap.objs.size []) (h' := s.heap.push { cls := .type "dict", data := .dict #[] }) (t' := s.toks) (fun _ _ q => Heap.get?_push_of_some _ q) (Nat.le_refl _) (nd_empty s.heap I.big)
  rw [arm_eval_Dict, hshape, dictDisplay_pairs _ (by intro z; rw [z] at hlen; cases hlen) (by omega)]
  refine wpAny_bind (wpAny_standAt (wpAny_bind (wpAny_subDictH (knd := nestedKind X.prog X.w) (Q := fun d s' => wpAny (model X.prog X.w) X.A (pure (Value.ref d)) (EP X pins σ Q) X.xe s') (by show X.A.units + 8 < cLine; omega) (by rw [hlen]; decide)
    (thn (h.run pins _ σ _ _ I1 (q _ hn)) fun ws s2 ⟨ps, H2, I2, rel, e, ks, b, v, ep, hb, hd, q2⟩ => ?_))))
  subst ep
  cases rel with
  | @cons _ q1 _ _ r1 r2 =>
    cases r2
    obtain ⟨u1, u2⟩ := q1
    obtain ⟨ra, rb⟩ := r1
    cases ra
    obtain ⟨z, hm, xs, r, dd⟩ := nd_raw I2 (.inl e) (fun x hx => nomatch hx)
    cases r
    refine ⟨[(.tup ks, b, u2)], ⟨rfl, rfl, nd_key I2 hb hd, trivial⟩, dd, fun h' tk dd' hs => wpAny_pure ⟨.ref s.heap.objs.size, _, ?_, rfl, q2⟩⟩
    exact nd_write (l' := [(.tup ks, b, v)]) I2 e hs (by show 1 ≤ sizeLine; decide) hm (.cons ⟨rfl, rfl, rb⟩ .nil) dd'

/-! ### methods called -/
def tNdM0 (P : Program) (w : World) (r : V → List V → Hp → VK → Prop) (to : TE) : TE := fun σ H Q => to σ H fun x H1 => (∃ a l, x = .ref a ∧ Rd H1 a (NDO P w a l)) ∧ r x [] H1 Q
def tNdM (P : Program) (w : World) (r : V → List V → Hp → VK → Prop) (to : TE) (t : TA) : TE := fun σ H Q => to σ H fun x H1 => (∃ a l, x = .ref a ∧ Rd H1 a (NDO P w a l)) ∧ t σ H1 fun xs H2 => r x xs H2 Q
variable {o e : Expr} {es : List Expr} {to : TE} {t : TA} {name : Str} {apos cpos : Pos} {T id : String} {r : V → List V → Hp → VK → Prop}
theorem pe_ndM0 (slot : Slot "dict" name id) (hty : typeOf (.builtin id) = pure (.type "method_descriptor")) (hm : MtR X id r) (ho : PE X o to)
    (hbase : attributeBase o name X.env (eval o X.env) = eval o X.env := by rfl) (hline : (apos.endLine == cpos.line) = true := by rfl) : PE X (.Call (.Attribute o name apos) [] [] cpos) (tNdM0 X.prog X.w r to) := by
  refine ⟨fun pins s σ H Q I h => ?_⟩
  refine wpAny_Call_method0_late hbase hline (thn (ho.run pins s σ H _ I h) fun v s1 ⟨x, H1, I1, r1, ⟨a, l, ea, hr⟩, q1⟩ => ?_)
  subst ea
  cases r1
  obtain ⟨h1, h2, _⟩ := nd_type I1 hr
  exact ⟨"dict", id, PySem.F.plainAttrs_dict, slot, hty, h1, h2, Calls.callWith_builtin rfl (PySem.evalArgs_none (hm pins s1 σ H1 (.ref a) [] (.ref a) [] Q I1 rfl .nil q1))⟩
theorem pe_ndM (slot : Slot "dict" name id) (hty : typeOf (.builtin id) = pure (.type "method_descriptor")) (hm : MtR X id r) (ho : PE X o to) (ha : PA X (e :: es) t)
    (hbase : attributeBase o name X.env (eval o X.env) = eval o X.env := by rfl)
    (hfew : ((backTo cpos (starEach (e :: es) X.env)).all (fun x => !x.1) && (backToKw cpos (keywordEach [] X.env)).all (fun x => x.1.isSome)
      && decide ((e :: es).length + ([] : List Keyword).length + (if ([] : List Keyword).isEmpty then 0 else 1) < 30)) = true := by rfl)
    (hline : (apos.endLine == cpos.line) = true := by rfl) (hs : starEach (e :: es) X.env = (false, eval e X.env) :: starEach es X.env := by rfl) (hplain : (backTo cpos (starEach es X.env)).any (·.1) = false := by rfl) :
    PE X (.Call (.Attribute o name apos) (e :: es) [] cpos) (tNdM X.prog X.w r to t) := by
  refine ⟨fun pins s σ H Q I h => ?_⟩
  refine wpAny_Call_method_late hbase hfew hline rfl (thn (ho.run pins s σ H _ I h) fun v s1 ⟨x, H1, I1, r1, ⟨a, l, ea, hr⟩, q1⟩ => ?_)
  subst ea
  cases r1
  obtain ⟨h1, h2, _⟩ := nd_type I1 hr
  refine ⟨"dict", id, PySem.F.plainAttrs_dict, slot, hty, h1, h2, ?_⟩
  have hA := ha.run cpos pins s1 σ H1 _ I1 q1
  rw [hs] at hA ⊢
  refine Calls.callWith_builtin (by show (false || (backTo cpos (starEach es X.env)).any (·.1)) = false; rw [hplain] <;> rfl) (Calls.evalArgs_plain ?_)
  exact thn hA fun us s2 ⟨vs, H2, I2, r2, q2⟩ => hm pins s2 σ H2 (.ref a) vs (.ref a) us Q I2 rfl r2 q2
end

/-! ### a locked dict walked: its keys -/
section
variable {X : Cx} {pins : List (Addr × Obj)} {σ : L2.St} {H : Hp} {s : Shared} {d : Addr} {o : Obj}
theorem nd_frz {l : List Ent} (I : Inv X pins σ H s) (h : H d = some (.frz o (NDO X.prog X.w d l))) :
    (d == sysModules) = false ∧ s.heap.get? d = some o ∧ o.ExactDict ∧ ∃ (es : Array DictEntry) (ep : Nat), o.data = .dict es ep ∧ es.size = l.length ∧
      ∀ (i : Nat) (e : Ent), l[i]? = some e → ∃ (en : DictEntry), es[i]? = some en ∧ en.key = .ref e.2.1 := by
  obtain ⟨hd, ⟨z, hs, xs, pr, o', es, ep, ho, hx, hdt, he, _⟩, _⟩ := (show ObjOk X.prog X.w H s.heap d (.frz o (NDO X.prog X.w d l)) from I.hok d _ h)
  rw [hd] at ho
  cases ho
  refine ⟨hs, hd, hx, es, ep, hdt, ?_, fun i e e0 => ?_⟩
  · have l1 : es.size = xs.length := size_of_entries he
    have l2 : l.length = xs.length := Paired.length pr
    omega
  · obtain ⟨b, hb, e1, e2, _⟩ := paired_get pr e0
    have q := entry_at he i
    rw [hb] at q
    refine ⟨_, q, ?_⟩
    show Value.ref b.2.1 = Value.ref e.2.1
    rw [e2]
end
/-- the keys of the locked dict at d, in their order: the keys' own tuples -/
def ItN (P : Program) (w : World) (d : Addr) (o : Obj) (l : List Ent) : It :=
  ⟨fun i H => H d = some (.frz o (NDO P w d l)) ∧ i < l.length, fun i H x H' => H' = H ∧ ∃ e, l[i]? = some e ∧ x = .ref e.2.1, fun i H => H d = some (.frz o (NDO P w d l)) ∧ l.length ≤ i⟩
theorem turn_nd {P : Program} {w : World} {K : PySem.W.Frag} {tg : Expr} {d : Addr} {o : Obj} {es : Array DictEntry} {ep : Nat} {l : List Ent} (it : Addr) (hod : o.data = .dict es ep) : Turn P w K tg (ItN P w d o l) [it] it (fun i h => h.IsKeyIter it d i l.length ep) where
  mem := by simp
  obj := fun i h st b hb => by
    have e : b = it := by simpa using hb
    subst e
    obtain ⟨oi, e, c, dd⟩ := st
    exact ⟨oi, e, fun v z => by rw [dd] at z; cases z⟩
  keep := fun i h h' st k => st.at fun oi e => k it (by simp) oi e
  item := by
    intro X hP hw hK hc i pins s σ H E I hf st hg
    subst hP hw hK
    obtain ⟨hd, hi⟩ := hg
    obtain ⟨f0, f1, f2, f3, f4, f5⟩ := hf it (by simp)
    obtain ⟨hs, hgd, hx, es', ep', hdt, hsz, ent⟩ := nd_frz I hd
    obtain ⟨rfl, rfl⟩ := dict_ep hod hdt
    obtain ⟨e, hkv⟩ : ∃ p, l[i]? = some p := ⟨l[i], List.getElem?_eq_getElem hi⟩
    obtain ⟨en, hen, hkey⟩ := ent i e hkv
    refine next_key_item st hgd hdt hsz hen fun h' st' sb => ?_
    have I1 : Inv X pins σ H { s with heap := h' } := I.turned (t' := s.toks) (fun b ob hb e => (sb.2 b hb).trans e) f0 f1 f3 f4 f5
    obtain ⟨oi, e0, c, dd⟩ := id st'
    exact ⟨en.key, rfl, go_of (s := { s with heap := h' }) e0 c dd (by decide) ⟨.ref e.2.1, H, I1, hkey, ⟨rfl, e, hkv, rfl⟩, st', fun b hb => (hf b hb).1⟩⟩
  done := by
    intro X hP hw hK hc i pins s σ H E I hf st hg
    subst hP hw hK
    obtain ⟨hd, hi⟩ := hg
    obtain ⟨f0, f1, f2, f3, f4, f5⟩ := hf it (by simp)
    obtain ⟨hs, hgd, hx, es', ep', hdt, hsz, ent⟩ := nd_frz I hd
    obtain ⟨rfl, rfl⟩ := dict_ep hod hdt
    exact next_key_end (I.ok.hd hc) st hgd hdt hsz hi fun h' eb => ⟨rfl, I.turned (t' := s.toks) (fun b ob hb e => eb b ob hb e) f0 f1 f3 f4 f5⟩
  self := fun A i s Q E st h => by
    refine wpAny_pyIter_slot st.typeIs PySem.F.slot_dict_keyiterator_iter (wpAny_call_entry PySem.F.slot_dict_keyiterator_iter st.typeIs PySem.F.entry_dict_keyiterator_iter ?_ (PySem.F.args_dict_keyiterator_iter_1 _))
    show wpAny _ _ (ret (.ref it)) _ _ s
    exact wpAny_pure ⟨_, rfl, "dict_keyiterator", _, st.typeIs, PySem.F.slot_dict_keyiterator_next.lookup, h⟩
def iNd (P : Program) (w : World) (td : TE) : TI := fun σ H R => td σ H fun x H1 => ∃ d o l, x = .ref d ∧ H1 d = some (.frz o (NDO P w d l)) ∧ R (ItN P w d o l) H1
theorem pi_nd {X : Cx} {tg e : Expr} {td : TE} (he : PE X e td) : PI X tg e (iNd X.prog X.w td) := by
  refine ⟨fun pins s σ H R I h => ?_⟩
  refine thn (he.run pins s σ H _ I h) fun u s1 ⟨x, H1, I1, rx, d, o, l, ex, hd, q⟩ => ?_
  subst ex
  obtain rfl : u = Value.ref d := rx
  obtain ⟨hs, hgd, hx, es, ep, hdt, hsz, ent⟩ := nd_frz I1 hd
  refine iter_keys hs hgd hx hdt (pi_one (tk := s1.toks) I1 _ (turn_nd _ hdt) ⟨_, Heap.get?_push_size _ rfl, rfl, ?_⟩ q)
  rw [hsz] <;> rfl
theorem walk_nd {P : Program} {w : World} {d : Addr} {o : Obj} {l : List Ent} : Walk (ItN P w d o l) l.length (fun H => H d = some (.frz o (NDO P w d l))) (fun i H x H' => H' = H ∧ ∃ e, l[i]? = some e ∧ x = .ref e.2.1) :=
  ⟨fun _ _ hi q => ⟨q, hi⟩, fun _ q => ⟨q, Nat.le_refl _⟩, fun _ _ _ _ _ _ y => y⟩

/-! ### list(d.values()) -/
section
variable {X : Cx}
/-- a dict's values, told by the view at v -/
def viewVO (p d : Addr) : HO := .ext fun h => h.get? p = some { cls := .type "dict_values", data := .fields #[.ref d] }
theorem viewVO_ok {P : Program} {w : World} {H : Hp} {h : Heap} {p d : Addr} (e : h.get? p = some { cls := .type "dict_values", data := .fields #[.ref d] }) : ObjOk P w H h p (viewVO p d) :=
  ⟨e, ⟨_, e⟩, fun _ _ a k => k _ a⟩
theorem mt_ndValues : MtR X "dict.values" (fun x xs H Q => ∃ a l, x = .ref a ∧ xs = [] ∧ Rd H a (NDO X.prog X.w a l) ∧ ∀ p, H p = none → Q (.ref p) (upd H p (viewVO p a))) := by
  intro pins s σ H x xs v us Q I rx rxs h
  obtain ⟨a, l, rfl, rfl, hr, q⟩ := h
  cases rx
  cases rxs
  obtain ⟨ht, hn, hd⟩ := nd_type I hr
  obtain ⟨⟨z, hd, xs, r, o, es, ep, h1, h2, h3, h4, h5⟩, _⟩ := hr.ok I.hok
  refine call_meetsIn PySem.F.slot_dict_values ht PySem.F.entry_dict_values (PySem.F.args_dict_values_1 _) (meets_dict_values_raw a hd) ⟨⟨es, ep, o, h1, h2, h3⟩, ?_⟩
  exact ⟨.ref s.heap.objs.size, _, I.laid (a := s.heap.objs.size) (o := viewVO s.heap.objs.size a) (t' := s.toks) (fun _ _ q => Heap.get?_push_of_some _ q) (Nat.le_refl _) (viewVO_ok (Heap.get?_push_size _ rfl)), rfl, q _ (I.hok.fresh (Nat.le_refl _))⟩
theorem vals_of_ER : ∀ {l : List Ent} {xs : List (NestedKey × Addr × Value)}, ER l xs → Vals (l.map fun x => x.2.2) (xs.map fun x => x.2.2)
  | _, _, .nil => .nil
  | _, _, .cons h t => .cons h.2.2 (vals_of_ER t)
theorem call_ndList (hc : X.calm = true) : CallR X (.type "list") (fun xs H Q => ∃ p a l, xs = [.ref p] ∧ H p = some (viewVO p a) ∧ Rd H a (NDO X.prog X.w a l) ∧ ∀ q, H q = none → Q (.ref q) (upd H q (.lst (l.map fun x => x.2.2)))) := by
  intro pins s σ H xs us Q I r h
  obtain ⟨p, a, l, rfl, hp, hr, q⟩ := h
  obtain ⟨u, rfl, rx⟩ := vals1 r
  obtain rfl : u = .ref p := rx
  obtain ⟨⟨z, hd, xs, r, o, es, ep, h1, h2, h3, h4, h5⟩, _⟩ := hr.ok I.hok
  obtain ⟨hv, _⟩ := (show ObjOk X.prog X.w H s.heap p (viewVO p a) from I.hok p _ hp)
  have hraw : s.heap.DictRaw a es ep := ⟨o, h1, h2, h3⟩
  have hsz : es.size = xs.length := size_of_entries h4
  have hl : l.length = xs.length := Paired.length r
  refine PySem.W.kdl_call (KdlSrc.rawValues (prog := X.prog) (w := X.w) (r := p) (d := a) (es := es) (ep := ep)) (I.ok.hd hc) ⟨⟨_, hv, rfl, rfl⟩, hraw⟩ (by omega) fun h' tk acc' c' hk hD hacc => ?_
  have hacc' : acc'.toList = xs.map fun x => x.2.2 := by
    refine List.ext_getElem? fun j => ?_
    rw [List.getElem?_map, Array.getElem?_toList]
    by_cases hj : j < acc'.size
    · obtain ⟨hi, ev⟩ := hacc.2 j acc'[j] (by simp [hj])
      have q := entry_at h4 j
      rw [Array.getElem?_eq_getElem hi] at q
      cases e : xs[j]? with
      | none =>
        rw [e] at q
        cases q
      | some y =>
        rw [e] at q
        have q' : es[j] = entryOfKey (nestedKind X.prog X.w) y := Option.some.inj q
        rw [Array.getElem?_eq_getElem hj, ev, q']
        rfl
    · rw [Array.getElem?_eq_none (by omega), List.getElem?_eq_none (by have := hacc.1; omega)]
      rfl
  refine ⟨.ref s.heap.objs.size, _, I.laid (a := s.heap.objs.size) (o := .lst (l.map fun x => x.2.2)) (h' := h') (t' := tk) hk (Nat.le_refl _) ⟨by rw [List.length_map]; exact z, xs.map fun x => x.2.2, c', vals_of_ER r, ?_⟩, rfl, q _ (I.hok.fresh (Nat.le_refl _))⟩
  rw [← hacc', Array.toArray_toList]
  exact hD
end
end FM
/-! Sorting rows of tuples among which some may be empty. -/
namespace FM
section
open PySem PySem.W PySem.Calls PyProof.Rows PySem.SeqAt
section
variable {prog : Program} {w : World} {A : Around} {E : Value → Shared → Prop} {s : Shared}
theorem call_tuple_lt {Q : Value → Shared → Prop} {l b : Addr} {items items2 : Array Value} {e r : Nat → Bool} (hl : s.heap.IsTuple l items) (hb : s.heap.IsTuple b items2)
    (he : ∀ j (h1 : j < items.size) (h2 : j < items2.size), EqAt A.in1 s items[j] items2[j] (e j)) (hr : ∀ j (h1 : j < items.size) (h2 : j < items2.size), e j = false → RcLt A.in1 s items[j] items2[j] (r j))
    (h : Q (.bool (firstLt e r (decide (items.size < items2.size)) (List.range (min items.size items2.size)))) s) : wpAny (model prog w) A (call (.builtin "tuple.__lt__") [.ref l, .ref b]) Q E s := by
  obtain ⟨⟨cls, dd, data, sl⟩, ho, hc, n, hd⟩ := id hl
  obtain ⟨⟨cls2, dd2, data2, sl2⟩, ho2, hc2, n2, hd2⟩ := id hb
  simp only at hc hd hc2 hd2
  subst hc hd hc2 hd2
  exact call_meets F.slot_tuple_lt ⟨_, ho, rfl⟩ F.entry_tuple_lt (F.args_tuple_lt_2 _ _) (tuple_ltAt l b items items2 n n2 dd dd2 sl sl2 e r) ⟨ho, ho2, he, hr, h⟩
theorem oneLt_tup {xs ys : List PyData} {a b : Value} {as bs : List Addr} {Q : Bool → Shared → Prop} (ra : Reads s.heap a (.tuple xs) as) (rb : Reads s.heap b (.tuple ys) bs) (hal : alikeAll xs ys = true)
    (hu : A.units + min (PyData.depth (.tuple xs)) (PyData.depth (.tuple ys)) < cLine) (hq : Q (dataLt (.tuple xs) (.tuple ys)) s) : wpAny (model prog w) A (oneLt' true a b) Q E s := by
  cases ra with
  | @tuple l o vs n _ as₁ h1 h2 h3 h4 =>
    cases rb with
    | @tuple l' o' vs' n' _ bs₁ k1 k2 k3 k4 =>
      have n1 : vs.size = xs.length := by simpa using ReadsAll.length _ _ _ h4
      have n2 : vs'.size = ys.length := by simpa using ReadsAll.length _ _ _ k4
      rw [dataLt_tuple, ← firstLt_toks xs ys hal, ← n1, ← n2] at hq
      rw [oneLt'_eq]
      simp only [if_true]
      refine wpAny_bind (wpAny_cRoomFor (room_here hu) ?_)
      refine wpAny_bind (wpAny_callSpecialIfBound?_slot (T := "tuple") ⟨_, h1, h2⟩ F.slot_tuple_lt (call_tuple_lt (e := pairEq xs ys) (r := fun j => dataLt (xs.getD j .none) (ys.getD j .none)) ⟨_, h1, h2, _, h3⟩ ⟨_, k1, k2, _, k3⟩ (fun j j1 j2 => ?_) (fun j j1 j2 hj => ?_) ?_))
      · have := eqAt_alikeAll xs ys A.in1 s vs.toList vs'.toList _ _ h4 k4 hal (room_in hu) j (by simpa using j1) (by simpa using j2)
        simpa using this
      · have := rcLt_alikeAll xs ys A.in1 s vs.toList vs'.toList _ _ h4 k4 hal (room_in hu) j (by simpa using j1) (by simpa using j2) hj
        simpa using this
      · exact wpAny_truthy_bool hq
def nonE : PyData → Bool
  | .tuple (_ :: _) => true
  | _ => false
theorem firsts_tup {M : Model} : ∀ {vs : List Value} {ds : List PyData}, EachIs (fun v d => ∃ as, Reads s.heap v d as) vs ds → (∀ d ∈ ds, ∃ xs, d = .tuple xs) → ∀ (Q : List (Option Value) → Shared → Prop),
    (∀ fs : List (Option Value), fs.map (·.isSome) = ds.map nonE → Q fs s) → wpAny M A (vs.mapM firstOfTuple') Q E s
  | _, _, .nil, _, Q, h => by
    rw [List.mapM_nil]
    exact wpAny_pure (h [] rfl)
  | _, _, .cons (b := d) ⟨as, r⟩ t, ht, Q, h => by
    obtain ⟨xs, rfl⟩ := ht _ (List.mem_cons_self ..)
    cases r with
    | @tuple a o vs n _ _ ho hc hd hr =>
      rw [List.mapM_cons]
      refine wpAny_bind ?_
      rw [kas_first_eq]
      refine wpAny_bind (Looks.here (show Looks M s.heap (typeOf (.ref a)) o.cls from (Looks.ld ho).andThen .now) ?_)
      rw [hc, if_neg (by first | decide | simp)]
      refine wpAny_bind (listItems_at ho hd (wpAny_pure ?_))
      refine wpAny_bind (firsts_tup t (fun d hd => ht d (List.mem_cons_of_mem _ hd)) (fun bs s' => wpAny M A (pure (vs[0]? :: bs)) Q E s') fun fs hf => wpAny_pure (h _ ?_))
      rw [List.map_cons, List.map_cons, hf]
      have e : (vs[0]?).isSome = nonE (.tuple xs) := by
        have hl : vs.toList.length = xs.length := ReadsAll.length _ _ _ hr
        cases xs with
        | nil =>
          have : vs.size = 0 := by simpa using hl
          rw [Array.getElem?_eq_none (by omega)]
          rfl
        | cons x xs =>
          have : vs.size = xs.length + 1 := by simpa using hl
          rw [Array.getElem?_eq_getElem (by omega)]
          rfl
      rw [e]
theorem kind_tup {M : Model} {vs : List Value} {ds : List PyData} (e : EachIs (fun v d => ∃ as, Reads s.heap v d as) vs ds) (ht : ∀ d ∈ ds, ∃ xs, d = .tuple xs) (h0 : PyData.tuple [] ∈ ds) (Q : SortKind → Shared → Prop)
    (h : Q (if (ds.head?.map nonE) = some true then general' else oneType') s) : wpAny M A (keyKind' vs.toArray) Q E s := by
  rw [kat_kind_eq, List.mapM_toArray, map_eq_pure_bind]
  refine wpAny_bind (wpAny_bind (firsts_tup e ht _ fun fs hf => wpAny_pure ?_))
  have hall : ¬ (fs.toArray.all fun x => x.isSome) = true := by
    intro z
    rw [List.all_toArray, List.all_eq_true] at z
    have hm : nonE (.tuple []) ∈ ds.map nonE := List.mem_map.mpr ⟨_, h0, rfl⟩
    rw [← hf] at hm
    obtain ⟨x, hx, ex⟩ := List.mem_map.mp hm
    rw [z x hx] at ex
    cases ex
  rw [if_neg hall]
  have hfirst : (fs.toArray[0]?.bind id).isSome = (ds.head?.map nonE == some true) := by
    rw [List.getElem?_toArray]
    cases ds with
    | nil => cases h0
    | cons d ds =>
      cases fs with
      | nil => cases hf
      | cons f fs =>
        rw [List.map_cons, List.map_cons] at hf
        injection hf with h1 h2
        show f.isSome = (some (nonE d) == some true)
        rw [h1]
        cases nonE d <;> rfl
  by_cases q : (ds.head?.map nonE) = some true
  · rw [if_pos q] at h
    rw [if_pos (by rw [hfirst, q]; rfl)]
    exact wpAny_pure h
  · rw [if_neg q] at h
    rw [if_neg (by rw [hfirst]; intro z; exact q (by simpa using z))]
    rw [oneTypeOnly'_eq, List.mapM_toArray, map_eq_pure_bind]
    refine wpAny_bind (wpAny_bind (wpAny_bind (kas_mapM (r := Value.type "tuple") _ (fun v hv Q' hq => ?_) (wpAny_pure ?_))))
    · obtain ⟨d, hd, as, r⟩ := e.left v hv
      obtain ⟨xs, rfl⟩ := ht d hd
      exact (looks_reads r).here hq
    · obtain ⟨v₁, rest, rfl⟩ : ∃ v₁ rest, vs = v₁ :: rest := by
        cases e with
        | nil => cases h0
        | cons _ _ => exact ⟨_, _, rfl⟩
      have hall2 : ((List.map (fun _ => Value.type "tuple") (v₁ :: rest)).toArray.all fun x => x == Value.type "tuple") = true := by
        simp only [List.all_toArray, List.all_map, List.all_eq_true]
        intro _ _
        exact beq_self_eq_true _
      have h0 : (List.map (fun _ => Value.type "tuple") (v₁ :: rest)).toArray[0]? = some (Value.type "tuple") := by simp
      rw [h0]
      simp only [hall2, if_true]
      exact wpAny_pure (wpAny_pure h)
/-- tuples, empty ones too, can be sorted -/
theorem sorts_tups {vs : List Value} {ds : List PyData} (e : EachIs (fun v d => ∃ as, Reads s.heap v d as) vs ds) (hal : AllAlike ds) (ht : ∀ d ∈ ds, ∃ xs, d = .tuple xs) (hu : ∀ d, d ∈ ds → A.units + d.depth < cLine) : SortsAt prog w A s (dataKind s.heap ds) vs := by
  by_cases h0 : PyData.tuple [] ∈ ds
  · have room : ∀ {d d' : PyData}, d ∈ ds → A.units + min d.depth d'.depth < cLine := fun {d d'} hd => Nat.lt_of_le_of_lt (Nat.add_le_add_left (Nat.min_le_left _ _) _) (hu d hd)
    refine ⟨fun v hv => ?_, if (ds.head?.map nonE) = some true then general' else oneType', ?_, fun h2 E Q hq => kind_tup e ht h0 Q hq⟩
    · obtain ⟨d, hd, as, r⟩ := e.left v hv
      exact ⟨_, dataKind_some hal hd r⟩
    · intro E x y a b Q ha hb hq
      obtain ⟨d, as, hd, ra, rfl⟩ := dataKind_inv ha
      obtain ⟨d', as', hd', rb, rfl⟩ := dataKind_inv hb
      have hdd := hal d hd d' hd'
      have hroom := room (d' := d') hd
      obtain ⟨xs, rfl⟩ := ht d hd
      obtain ⟨ys, rfl⟩ := ht d' hd'
      by_cases q : (ds.head?.map nonE) = some true
      · rw [if_pos q]
        show wpAny _ _ (oneLt' false x y) Q E s
        exact oneLt_alike (fun z => nomatch z) ra rb hdd (fun z => nomatch z) hroom hq
      · rw [if_neg q, keyLt'_oneType]
        exact oneLt_tup ra rb (by simpa [alike] using hdd) hroom hq
  · refine SortsAt.data e hal (.inl fun d hd => ?_) hu
    obtain ⟨xs, rfl⟩ := ht d hd
    cases xs with
    | nil => exact absurd hd h0
    | cons x r => exact ⟨x, r, rfl⟩
end
end

section
open PySem PySem.W PySem.Spec PyProof.Rows L2 Evl
theorem each_pair {X : Cx} {pins : List (Addr × Obj)} {σ : L2.St} {H : Hp} {s : Shared} : ∀ {xs : List V} {vs : List Value} {ds : List NestedKey}, Vals xs vs → TvA X.K H xs ds →
    EachIs (fun (v : Value) (b : NestedKey × V) => RelV b.2 v ∧ Tv X.K H b.2 b.1) vs (ds.zip xs)
  | _, _, _, .nil, .nil => .nil
  | _, _, _, .cons r t, .cons h t' => .cons ⟨r, h⟩ (each_pair (X := X) (pins := pins) (σ := σ) (H := H) (s := s) t t')
theorem tv_of_each {X : Cx} {H : Hp} : ∀ {vs : List Value} {bs : List (NestedKey × V)}, EachIs (fun (v : Value) (b : NestedKey × V) => RelV b.2 v ∧ Tv X.K H b.2 b.1) vs bs → Vals (bs.map (·.2)) vs ∧ TvA X.K H (bs.map (·.2)) (bs.map (·.1))
  | _, _, .nil => ⟨.nil, .nil⟩
  | _, _, .cons h t => ⟨.cons h.1 (tv_of_each t).1, .cons h.2 (tv_of_each t).2⟩
theorem zip_fst_of {xs : List V} {ds : List NestedKey} (h : xs.length = ds.length) : (ds.zip xs).map (·.1) = ds := List.map_fst_zip (by omega)
variable {X : Cx}
theorem sorted_rest {A : Around} {pins : List (Addr × Obj)} {σ : L2.St} {H : Hp} {s : Shared} {Q : VK} {E : Value → Shared → Prop} {xs : List V} {vs : List Value} {ds : List NestedKey} (I : Inv X pins σ H s) (rv : Vals xs vs) (hd : TvA X.K H xs ds)
    (ht : ∀ d ∈ ds, ∃ ks, d = NestedKey.tup ks) (hal : ∀ d ∈ ds, ∀ e ∈ ds, alike d.data e.data = true) (hdep : ∀ d ∈ ds, d.depth ≤ 8) (hz : xs.length ≤ sizeLine) (hu : A.units + 12 < cLine)
    (q : ∀ p ys es, H p = none → TvA X.K H ys es → es.Perm ds → es.Pairwise (fun d e => dataLt e.data d.data = false) → Q (.ref p) (upd H p (.lst ys))) :
    wpAny (model X.prog X.w) A (do let l ← newList vs; let _ ← holding [l] (call (.builtin "list.sort") [l] []); ret l) (fun fin s' => ∃ r, fin = .done (.ret r) ∧ EP X pins σ Q r s') E s := by
  have hl : vs.length = xs.length := rv.length.symm
  refine wpAny_bind (wpAny_newList ?_ (by rw [hl]; exact hz))
  have hoL : (s.heap.push (seqObj "list" vs.toArray 0)).get? s.heap.objs.size = some (seqObj "list" vs.toArray 0) := Heap.get?_push_size _ rfl
  have kp : ∀ b o, s.heap.get? b = some o → (sortingHeap (s.heap.push (seqObj "list" vs.toArray 0)) s.heap.objs.size vs).get? b = some o := fun b o e => sortingHeap_old (Nat.ne_of_lt (Heap.lt_size e)) (Heap.get?_push_of_some _ e)
  have e0 := each_pair (X := X) (pins := pins) (σ := σ) (H := H) (s := s) rv hd
  have er : EachIs (fun (v : Value) (b : NestedKey × V) => ∃ as, Reads (sortingHeap (s.heap.push (seqObj "list" vs.toArray 0)) s.heap.objs.size vs) v b.1.data as) vs (ds.zip xs) := e0.mono fun v b h => by
    obtain ⟨as, r⟩ := Dp.reads I b.1.data b.2 v h.2.dp h.1
    exact ⟨as, PyProof.Rows.Reads.keeps kp r⟩
  have em : (ds.zip xs).map (fun b : NestedKey × V => b.1.data) = ds.map NestedKey.data := by
    rw [show (fun b : NestedKey × V => b.1.data) = NestedKey.data ∘ (fun b : NestedKey × V => b.1) from rfl, ← List.map_map, zip_fst_of hd.length]
  have hal' : AllAlike ((ds.zip xs).map fun b : NestedKey × V => b.1.data) := by
    rw [em]
    intro d h1 d' h2
    obtain ⟨k, hk, rfl⟩ := List.mem_map.mp h1
    obtain ⟨k', hk', rfl⟩ := List.mem_map.mp h2
    exact hal k hk k' hk'
  have S : SortsAt X.prog X.w A.in1 { s with heap := sortingHeap (s.heap.push (seqObj "list" vs.toArray 0)) s.heap.objs.size vs } (dataKind (sortingHeap (s.heap.push (seqObj "list" vs.toArray 0)) s.heap.objs.size vs) ((ds.zip xs).map fun b : NestedKey × V => b.1.data)) vs := by
    refine sorts_tups (s := { s with heap := sortingHeap (s.heap.push (seqObj "list" vs.toArray 0)) s.heap.objs.size vs }) (each_map (R := fun v d => ∃ as, Reads (sortingHeap (s.heap.push (seqObj "list" vs.toArray 0)) s.heap.objs.size vs) v d as) (fun b : NestedKey × V => b.1.data) er) hal' ?_ ?_
    · rw [em]
      intro d h1
      obtain ⟨k, hk, rfl⟩ := List.mem_map.mp h1
      obtain ⟨ks, rfl⟩ := ht k hk
      exact ⟨_, rfl⟩
    · rw [em]
      intro d h1
      obtain ⟨k, hk, rfl⟩ := List.mem_map.mp h1
      have := hdep k hk
      rw [data_depth, Around.in1_units]
      omega
  have out := sortVals_data (enc := fun b : NestedKey × V => b.1.data) false e0 er hal'
  obtain ⟨o1, o2⟩ := tv_of_each out
  generalize hsb : (ds.zip xs).mergeSort (dataLe false fun b : NestedKey × V => b.1.data) = sb at out o1 o2
  have hperm : sb.Perm (ds.zip xs) := by
    rw [← hsb]
    exact List.mergeSort_perm _ _
  have hpw : sb.Pairwise (fun a b => dataLe false (fun b : NestedKey × V => b.1.data) a b = true) := by
    rw [← hsb]
    exact sort_pairwise (sortLe_total (listOrd itemOrd) false _) _
  generalize hov : sortVals (dataKind (sortingHeap (s.heap.push (seqObj "list" vs.toArray 0)) s.heap.objs.size vs) ((ds.zip xs).map fun b : NestedKey × V => b.1.data)) false vs vs = ov at out o1
  show wpAny _ _ _ _ _ { s with heap := s.heap.push (seqObj "list" vs.toArray 0) }
  refine wpAny_bind (wpAny_holding (wpAny_call_entry slot_list_sort ⟨_, hoL, rfl⟩ entry_list_sort (list_sort_vals (s := { s with heap := s.heap.push (seqObj "list" vs.toArray 0) }) hoL S (by rw [hl]; exact hz) ⟨_, rfl, ?_⟩) (args_list_sort _)))
  rw [hov]
  obtain ⟨c, hc⟩ := sortedHeap_at (vs := vs) (out := ov.toArray) hoL
  have hlen : (sb.map (·.2)).length ≤ sizeLine := by
    have e1 := hperm.length_eq
    rw [List.length_zip] at e1
    rw [List.length_map, e1]
    omega
  refine wpAny_pure ⟨_, rfl, .ref s.heap.objs.size, upd H s.heap.objs.size (.lst (sb.map (·.2))), I.laid (t' := s.toks) (fun b u e => ?_) (Nat.le_refl _)
    (show ObjOk X.prog X.w _ _ _ (.lst (sb.map (·.2))) from ⟨hlen, ov, c, o1, hc⟩), rfl, q _ _ (sb.map (·.1)) (I.hok.fresh (Nat.le_refl _)) o2 ?_ ?_⟩
  · have hb : b < s.heap.objs.size := Heap.lt_size e
    rw [sortedHeap_old (Nat.ne_of_lt hb) (by rw [size_push']; exact Nat.lt_succ_of_lt hb)]
    exact Heap.get?_push_of_some _ e
  · have e1 := hperm.map (·.1)
    rw [zip_fst_of hd.length] at e1
    exact e1
  · rw [List.pairwise_map]
    refine hpw.imp fun {a b} h => ?_
    have h' : (!dataLt b.1.data a.1.data) = true := h
    cases e : dataLt b.1.data a.1.data with
    | false => rfl
    | true => rw [e] at h'; cases h'
/-- what is asked of the data that are sorted -/
structure Srt (ds : List NestedKey) : Prop where
  tup : ∀ d ∈ ds, ∃ ks, d = NestedKey.tup ks
  al : ∀ d ∈ ds, ∀ e ∈ ds, alike d.data e.data = true
  dep : ∀ d ∈ ds, d.depth ≤ 8
/-- what sorting gives -/
def Out (H : Hp) (K : PySem.W.Frag) (ds : List NestedKey) (Q : VK) : Prop := ∀ p ys es, H p = none → TvA K H ys es → es.Perm ds → es.Pairwise (fun d e => dataLt e.data d.data = false) → Q (.ref p) (upd H p (.lst ys))
/-- sorted(xs) -/
theorem cr_sortedL (hu : X.A.units + 20 < cLine) : CallR X (.builtin "sorted") (fun vs H Q => ∃ a xs ds, vs = [V.ref a] ∧ SqL X.K H a xs ∧ TvA X.K H xs ds ∧ Srt ds ∧ Out H X.K ds Q) := by
  intro pins s σ H vs us Q I r h
  obtain ⟨a, xs, ds, rfl, hs, hd, S, q⟩ := h
  obtain ⟨u, rfl, rx⟩ := vals1 r
  obtain rfl : u = .ref a := rx
  obtain ⟨its, rv, p, hz⟩ := I.list hs
  refine Calls.call_function_entry kind_sorted plain_sorted entry_sorted (args_sorted1 _) ?_
  unfold Builtin.«sorted»
  refine wpAny_bind (m := checkCount "sorted" 1 1 _) (wpAny_pure ?_)
  refine wpAny_bind (collect_list p.isList ?_ (by have := rv.length; simp; omega))
  have I1 : Inv X pins σ H { s with heap := (s.heap.push (seqObj "list" #[] 0)).update s.heap.objs.size (Obj.mapSeq (· ++ its.toArray)) } := I.kept (t' := s.toks) fun b o e => by
    have hlt : b < s.heap.objs.size := Heap.lt_size e
    rw [Heap.get?_update_ne _ _ _ _ (Nat.ne_of_lt hlt)]
    exact Heap.get?_push_of_some _ e
  exact sorted_rest I1 rv hd S.tup S.al S.dep hz (by rw [Around.in1_units]; omega) q
theorem keys_of_ER : ∀ {l : List Ent} {xs : List (NestedKey × Addr × Value)}, ER l xs → Vals (l.map fun e => V.ref e.2.1) (xs.map fun x => Value.ref x.2.1)
  | _, _, .nil => .nil
  | _, _, .cons h t => .cons (by show Value.ref _ = Value.ref _; rw [h.2.1]) (keys_of_ER t)
theorem keys_tva {K : PySem.W.Frag} {H : Hp} : ∀ {l : List Ent}, Dk K H l → TvA K H (l.map fun e => V.ref e.2.1) ((prs l).map (·.1))
  | [], _ => .nil
  | e :: l, h => .cons (h e List.mem_cons_self).1 (keys_tva fun x hx => h x (List.mem_cons_of_mem _ hx))
/-- sorted(d) -/
theorem cr_sortedNd (hc : X.calm = true) (hu : X.A.units + 20 < cLine) : CallR X (.builtin "sorted") (fun vs H Q => ∃ a kvs, vs = [V.ref a] ∧ Dr X.prog X.w X.K H a kvs ∧ Srt (kvs.map (·.1)) ∧ Out H X.K (kvs.map (·.1)) Q) := by
  intro pins s σ H vs us Q I r h
  obtain ⟨a, kvs, rfl, ⟨l, hr, hk, rfl⟩, S, q⟩ := h
  obtain ⟨u, rfl, rx⟩ := vals1 r
  obtain rfl : u = .ref a := rx
  obtain ⟨⟨z, hd, xs, r, o, es, ep, h1, h2, h3, h4, h5⟩, _⟩ := hr.ok I.hok
  have hraw : s.heap.DictRaw a es ep := ⟨o, h1, h2, h3⟩
  have hsz : es.size = xs.length := size_of_entries h4
  have hl : l.length = xs.length := Paired.length r
  refine Calls.call_function_entry kind_sorted plain_sorted entry_sorted (args_sorted1 _) ?_
  unfold Builtin.«sorted»
  refine wpAny_bind (m := checkCount "sorted" 1 1 _) (wpAny_pure ?_)
  refine wpAny_bind (PySem.W.kdu_collect (A := X.A.in1) (KdlSrc.rawDict (prog := X.prog) (w := X.w) (d := a) (es := es) (ep := ep) hd) (I.ok.hd hc) hraw (by omega) fun h' tk acc hk' hacc => ?_)
  have I1 : Inv X pins σ H { s with heap := h', toks := tk } := I.kept hk'
  have eacc : acc.toList = xs.map fun x => Value.ref x.2.1 := by
    refine List.ext_getElem? fun j => ?_
    rw [List.getElem?_map, Array.getElem?_toList]
    by_cases hj : j < acc.size
    · obtain ⟨hi, ev⟩ := hacc.2 j acc[j] (by simp [hj])
      have q := entry_at h4 j
      rw [Array.getElem?_eq_getElem hi] at q
      cases e : xs[j]? with
      | none =>
        rw [e] at q
        cases q
      | some y =>
        rw [e] at q
        have q' : es[j] = entryOfKey (nestedKind X.prog X.w) y := Option.some.inj q
        rw [Array.getElem?_eq_getElem hj, ev, q']
        rfl
    · rw [Array.getElem?_eq_none (by omega), List.getElem?_eq_none (by have := hacc.1; omega)]
      rfl
  have rv : Vals (l.map fun e => V.ref e.2.1) acc.toList := by
    rw [eacc]
    exact keys_of_ER r
  have hT := keys_tva hk
  exact sorted_rest I1 rv hT S.tup S.al S.dep (by rw [List.length_map]; exact z) (by rw [Around.in1_units]; omega) q
end
end FM
/-! sorted(set of tuples); enumerate(tuple). -/
namespace FM
open PySem PySem.Spec PyProof.Rows L2 Evl
theorem perm_map_lift {α β : Type} {f : α → β} : ∀ {vs ws : List β}, vs.Perm ws → ∀ l : List α, ws = l.map f → ∃ l' : List α, l'.Perm l ∧ vs = l'.map f := by
  intro vs ws p
  induction p with
  | nil =>
    intro l h
    cases l with
    | nil => exact ⟨[], .nil, rfl⟩
    | cons a l => cases h
  | cons x p ih =>
    intro l h
    cases l with
    | nil => cases h
    | cons a l =>
      rw [List.map_cons] at h
      injection h with h1 h2
      obtain ⟨l', q, e⟩ := ih l h2
      exact ⟨a :: l', q.cons a, by rw [List.map_cons, ← e, h1]⟩
  | swap x y l0 =>
    intro l h
    cases l with
    | nil => cases h
    | cons a l =>
      cases l with
      | nil => cases h
      | cons b l =>
        rw [List.map_cons, List.map_cons] at h
        injection h with h1 h2
        injection h2 with h2 h3
        exact ⟨b :: a :: l, .swap a b l, by rw [List.map_cons, List.map_cons, h1, h2, h3]⟩
  | trans p q ih1 ih2 =>
    intro l h
    obtain ⟨l2, q2, e2⟩ := ih2 l h
    obtain ⟨l1, q1, e1⟩ := ih1 l2 e2
    exact ⟨l1, q1.trans q2, e1⟩
section
variable {X : Cx}
/-- sorted(a set of tuples of ints) -/
theorem cr_sortedSet (hc : X.calm = true) (hu : X.A.units + 20 < cLine) : CallR X (.builtin "sorted") (fun vs H Q => ∃ a L, vs = [V.ref a] ∧ H a = some (SetTO X.prog X.w a L) ∧ (∀ p ∈ L, SqT X.K H p.1 (p.2.map V.int)) ∧
    (((L.map (·.2)).Nodup ∧ L.length < 64) → Out H X.K (L.map fun p => eL p.2) Q)) := by
  intro pins s σ H vs us Q I r h
  obtain ⟨a, L, rfl, ha, hk, q⟩ := h
  obtain ⟨u, rfl, rx⟩ := vals1 r
  obtain rfl : u = .ref a := rx
  have R0 : SetT0 X.prog X.w s.heap a L := (I.hok a _ ha).1
  obtain ⟨es, ep, t, R⟩ := R0.full fun p hp => I.isT (hk p hp)
  obtain ⟨o, ho, hex, hd⟩ := R.ob
  have hsz := R.size
  have hfew := R.few
  refine Calls.call_function_entry kind_sorted plain_sorted entry_sorted (args_sorted1 _) ?_
  unfold Builtin.«sorted»
  refine wpAny_bind (m := checkCount "sorted" 1 1 _) (wpAny_pure ?_)
  refine wpAny_bind (collect_set (A := X.A.in1) (I.ok.hd hc) ⟨o, ho, hex.1, hd⟩ R.fits (by unfold scanBound; omega) R.tab.ris R.led fun s1 vs k1 hz g1 o1 pm => ?_)
  have hes : es.toList.map (·.2) = L.map fun q => Value.ref q.1 := by
    rw [R.rows]
    unfold rowsOf
    rw [List.map_map] <;> rfl
  rw [hes] at pm
  obtain ⟨L', pL, rfl⟩ := perm_map_lift pm L rfl
  have J : Inv X pins σ H { s with heap := s1.heap, gens := s1.gens, drawn := s1.drawn, toks := s1.toks } :=
    I.call (ch := []) (Un.kept k1) (I.hok.kept k1) (by rw [g1]; exact I.bare) (fun _ z => nomatch z)
  have e : s1 = { s with heap := s1.heap, gens := s1.gens, drawn := s1.drawn, toks := s1.toks } := by
    cases s1
    cases s
    cases o1
    rfl
  rw [e]
  have rv : ∀ M : List (Addr × List Int), Vals (M.map fun q => V.ref q.1) (M.map fun q => Value.ref q.1) := vals_of_refs
  have hT : ∀ M : List (Addr × List Int), (∀ p ∈ M, p ∈ L) → TvA X.K H (M.map fun q => V.ref q.1) (M.map fun p => eL p.2) := by
    intro M
    induction M with
    | nil => intro _; exact .nil
    | cons p M ih => intro h; exact .cons (Tv.ints (hk p (h p List.mem_cons_self))) (ih fun x hx => h x (List.mem_cons_of_mem _ hx))
  have hq := q ⟨R.nd, hfew⟩
  have hlL : L'.length = L.length := pL.length_eq
  have alI : ∀ a b : List Int, PySem.W.alike (eL a).data (eL b).data = true := fun a b => by
    have dt : ∀ ns : List Int, NestedKey.datas (ns.map .num) = ns.map PyData.int := by
      intro ns
      induction ns with
      | nil => rfl
      | cons n ns ih => show PyData.int n :: NestedKey.datas (ns.map .num) = _; rw [ih, List.map_cons]
    show PySem.W.alikeAll (NestedKey.datas (a.map .num)) (NestedKey.datas (b.map .num)) = true
    rw [dt, dt]
    exact PySem.W.alike_ints a b
  exact sorted_rest J (rv L') (hT L' fun p hp => pL.mem_iff.mp hp) (fun d hd => by
    obtain ⟨p, _, rfl⟩ := List.mem_map.mp hd
    exact ⟨_, rfl⟩) (fun d hd e he => by
    obtain ⟨p, _, rfl⟩ := List.mem_map.mp hd
    obtain ⟨p', _, rfl⟩ := List.mem_map.mp he
    exact alI _ _) (fun d hd => by
    obtain ⟨p, _, rfl⟩ := List.mem_map.mp hd
    rw [depth_eL]
    decide) (by rw [List.length_map, sizeLine_eq]; omega) (by rw [Around.in1_units]; omega) fun p ys es hp hys hperm hpw => hq p ys es hp hys (hperm.trans (pL.map _)) hpw
end

/-! ### enumerate(a tuple) -/
section
open PySem
set_option maxHeartbeats 1000000 in
theorem meets_enumerate_newT {v : Value} {o : Obj} {H : Heap → Prop} (B : Begins v o H) :
    Meets (Builtin.«enumerate.__new__» ⟨[.type "enumerate", v], []⟩) (fun _ R s => H s.heap ∧
      R (.ok (.ret (.ref (s.heap.push o).objs.size))) { s with heap := (s.heap.push o).push { cls := .type "enumerate", data := .fields #[.none, .bool false, .ref s.heap.objs.size, rawInt 0, .none, .none] } }) :=
  .of_wp fun prog w A R s h => by
    obtain ⟨hp, g, d, tk, os⟩ := s; obtain ⟨h1, h⟩ := h
    have hsub := sub_enumerate
    have q1 : ∀ {A' : Around} {E : Value → Shared → Prop} {Q : Value → Shared → Prop}, Q (.ref hp.objs.size) ⟨hp.push o, g, d, tk, os⟩ → wpAny (model prog w) A' (pyIter v) Q E ⟨hp, g, d, tk, os⟩ :=
      fun q => B.iter prog w _ _ ⟨hp, g, d, tk, os⟩ _ h1 q
    wp_walk using q1
    refine wpAny_stack_any fun st => wpAny_pure ?_
    split
    · rename_i c _ _ _ _ _
      cases (c == Value.type "enumerate")
      · wp_walk using q1
        exact ⟨_, rfl, h⟩
      · wp_walk using q1
        exact ⟨_, rfl, h⟩
    · wp_walk using q1
      exact ⟨_, rfl, h⟩
theorem call_enumerate_B {prog : Program} {w : World} {A : Around} {E : Value → Shared → Prop} {s : Shared} {v : Value} {o : Obj} {H : Heap → Prop} {Q : Value → Shared → Prop} (B : Begins v o H) (h1 : H s.heap)
    (h : ∀ h', IsEnum h' (s.heap.objs.size + 1) s.heap.objs.size 0 .none → h'.get? s.heap.objs.size = some o → h'.objs.size = s.heap.objs.size + 2 →
      (∀ b o, s.heap.get? b = some o → h'.get? b = some o) → Q (.ref (s.heap.objs.size + 1)) { s with heap := h' }) :
    wpAny (model prog w) A (call (.type "enumerate") [v]) Q E s := by
  refine callType_new PySem.F.called_enumerate (by decide) (PySem.F.typeCall_enumerate_1 _) (PySem.F.newCall_enumerate_1 _) (fun obj => PySem.F.args_object_init_2 obj _) PySem.F.entry_enumerate_new
    (meets_enumerate_newT B) ⟨h1, ?_⟩
  have hz : (s.heap.push o).objs.size = s.heap.objs.size + 1 := Heap.size_push ..
  show _ ∧ _
  rw [hz]
  have he : IsEnum ((s.heap.push o).push { cls := .type "enumerate", data := .fields #[.none, .bool false, .ref s.heap.objs.size, rawInt 0, .none, .none] }) (s.heap.objs.size + 1) s.heap.objs.size 0 .none := by
    have := Heap.get?_push_size (s.heap.push o) (o := { cls := .type "enumerate", data := .fields #[.none, .bool false, .ref s.heap.objs.size, rawInt 0, .none, .none] }) rfl
    rw [hz] at this; exact this
  refine ⟨⟨_, he, rfl⟩, h _ he (Heap.get?_push_of_some _ (Heap.get?_push_size _ B.free)) (by rw [Heap.size_push, hz]) fun b o x => Heap.get?_push_of_some _ (Heap.get?_push_of_some _ x)⟩
end
def IteT (K : PySem.W.Frag) (a : Addr) : It :=
  ⟨fun i H => ∃ (xs : List V) (x : V), SqT K H a xs ∧ xs[i]? = some x, fun i H v H' => ∃ T x, v = .ref T ∧ H T = none ∧ H' = upd H T (.tup [.int (i : Nat), x]) ∧ ∀ xs, SqT K H a xs → xs[i]? = some x, fun i H => ∃ xs : List V, SqT K H a xs ∧ xs.length = i⟩
theorem turn_enumT {P : Program} {w : World} {K : PySem.W.Frag} {elts : List Expr} {kk : Nat} {tpos : Pos} (a e it : Addr) :
    Turn P w K (.Tuple elts kk tpos) (IteT K a) [e, it] e (fun i h => (∃ old, IsEnum h e it ((i : Nat) : Int) old) ∧ h.IsTupleIter it a i ∧ e ≠ it ∧ a ≠ e ∧ a ≠ it) where
  mem := by simp
  obj := fun i h st b hb => by
    obtain ⟨⟨old, he⟩, ⟨o, ho, hc, hd⟩, _⟩ := st
    have e' : b = e ∨ b = it := by simpa using hb
    rcases e' with z | z
    · rw [z]; exact ⟨_, he, fun v q => nomatch q⟩
    · rw [z]; exact ⟨o, ho, fun v q => by rw [hd] at q; cases q⟩
  keep := fun i h h' st k => let ⟨⟨old, he⟩, hi, hne, h1, h2⟩ := st; ⟨⟨old, k e (by simp) _ he⟩, hi.at fun o q => k it (by simp) o q, hne, h1, h2⟩
  item := by
    intro X hP hw hK hc i pins s σ H E I hf st hg
    subst hP hw hK
    obtain ⟨⟨old, he⟩, hit, hne, hae, hai⟩ := st
    obtain ⟨xs, x, hq, hx⟩ := hg
    obtain ⟨its, rv, p, hz⟩ := I.tuple hq
    obtain ⟨u, hu, ru⟩ := rv.get hx
    have hel : e < s.heap.objs.size := Heap.lt_size he
    have hil : it < s.heap.objs.size := by obtain ⟨_, q, _⟩ := hit; exact Heap.lt_size q
    have D := Draws.tuple (prog := X.prog) (w := X.w) (A := X.A.in1) (I.ok.hd hc) it a hai its.toArray
    have hlt : i < its.toArray.size := by
      have := (List.getElem?_eq_some_iff.mp hu).1
      simpa using this
    refine wpAny_pyNext_enum_itemD D he ⟨hit, p⟩ hlt hne (by simp only [List.mem_cons, List.not_mem_nil, or_false, not_or]; exact ⟨hne, fun z => hae z.symm⟩) fun y h' tk hy ho hit' hT hsz hk => ?_
    have eu : y = u := by
      have h1 : its[i]? = some y := by simpa using hy
      rw [hu] at h1
      exact (Option.some.inj h1).symm
    subst eu
    refine ⟨_, rfl, wpAny_letOwnedTupleGo_enum (s := { s with heap := h', toks := tk + 1 }) ho fun h'' he' sb => ?_⟩
    have hT2 : h''.get? s.heap.objs.size = some { cls := .type "tuple", data := .seq #[.int i tk, y] } := (sb.2 _ (Nat.ne_of_gt hel)).trans hT
    have new : ObjOk X.prog X.w (upd H s.heap.objs.size (.tup [.int (i : Nat), x])) h'' s.heap.objs.size (.tup [.int (i : Nat), x]) :=
      ⟨by show 2 ≤ sizeLine; decide, [.int i tk, y], .cons ⟨_, rfl⟩ (.cons ru .nil), ⟨_, hT2, rfl, _, rfl⟩⟩
    have I1 : Inv X pins σ (upd H s.heap.objs.size (.tup [.int (i : Nat), x])) { s with heap := h'', toks := tk + 1 } :=
      I.turnedNew (ch := [e, it]) (fun b ob hb q => (sb.2 b (fun z => hb (by simp [z]))).trans (hk b ob (fun z => hb (by simp [z])) (fun z => hb (by simp [z])) q)) hf (Nat.le_refl _) new
    refine ⟨.ref s.heap.objs.size, _, I1, rfl, ⟨_, x, rfl, I.hok.fresh (Nat.le_refl _), rfl, fun ys hy => by rw [I.tuple_inj hy hq]; exact hx⟩, ⟨⟨y, ?_⟩, hit'.1.at fun o q => (sb.2 it (Ne.symm hne)).trans q, hne, hae, hai⟩, fun b hb => ?_⟩
    · have e1 : ((i + 1 : Nat) : Int) = (i : Int) + 1 := by omega
      rw [e1]; exact he'
    · have hb' : b < s.heap.objs.size := by
        have e' : b = e ∨ b = it := by simpa using hb
        rcases e' with z | z
        · rw [z]; exact hel
        · rw [z]; exact hil
      rw [upd_ne (Nat.ne_of_lt hb')]
      exact (hf b hb).1
  done := by
    intro X hP hw hK hc i pins s σ H E I hf st hg
    subst hP hw hK
    obtain ⟨⟨old, he⟩, hit, hne, hae, hai⟩ := st
    obtain ⟨xs, hq, hx⟩ := hg
    obtain ⟨its, rv, p, hz⟩ := I.tuple hq
    obtain ⟨f0, f1, f2, f3, f4, f5⟩ := hf it (by simp)
    have hl := rv.length
    have D := Draws.tuple (prog := X.prog) (w := X.w) (A := X.A.in1) (I.ok.hd hc) it a hai its.toArray
    have hn : i = its.toArray.size := by simp; omega
    subst hn
    exact wpAny_pyNext_enum_endD D he ⟨hit, p⟩ fun h' eb => ⟨rfl, I.turned (t' := s.toks) (fun b o hb q => eb b o hb q) f0 f1 f3 f4 f5⟩
  self := fun A i s Q E st h => let ⟨⟨_, he⟩, _⟩ := st; wpAny_pyIter_enum he h
def iEnumT (K : PySem.W.Frag) (ta : TA) : TI := fun σ H R => ta σ H fun vs H1 => ∃ a xs, vs = [.ref a] ∧ SqT K H1 a xs ∧ R (IteT K a) H1
theorem pi_enumT {X : Cx} {e : Expr} {ta : TA} {p pos tpos : Pos} {elts : List Expr} {kk : Nat} (hg : Gl X "enumerate") (hm : X.mg "enumerate" = none) (ha : PA X [e] ta) (hs : starEach [e] X.env = [(false, eval e X.env)] := by rfl) :
    PI X (.Tuple elts kk tpos) (.Call (.Name "enumerate" p) [e] [] pos) (iEnumT X.K ta) := by
  refine ⟨fun pins s σ H R I h => ?_⟩
  refine Call_ (ld_blt I hg hm boot_enumerate (PyProof.Rows.callWith_type1 (thn (ha.run pos pins s σ H _ I h) fun us s1 ⟨vs, H1, I1, r1, q1⟩ => ?_) hs rfl))
  obtain ⟨a, xs, ex, hq, q⟩ := q1
  subst ex
  cases r1 with
  | cons r rr =>
    cases rr
    cases r
    obtain ⟨its, rv, p', hz⟩ := I1.tuple hq
    have hlt : a < s1.heap.objs.size := by obtain ⟨o, ho, _⟩ := p'; exact Heap.lt_size ho
    refine call_enumerate_B (begins_tuple a its.toArray) p' fun h' he hit hsz hk => wpAny_pyIter_enum he ?_
    have I2 : Inv X pins σ H1 { s1 with heap := h' } := I1.kept (t' := s1.toks) hk
    refine ⟨s1.heap.objs.size + 1, [s1.heap.objs.size + 1, s1.heap.objs.size], _, _, H1, rfl, I2, turn_enumT a (s1.heap.objs.size + 1) s1.heap.objs.size, ⟨⟨.none, he⟩, ⟨_, hit, rfl, rfl⟩, Nat.succ_ne_self _, Nat.ne_of_lt (Nat.lt_succ_of_lt hlt), Nat.ne_of_lt hlt⟩, fun b hb => ?_, q⟩
    have e' : b = s1.heap.objs.size + 1 ∨ b = s1.heap.objs.size := by simpa using hb
    have hle : s1.heap.objs.size ≤ b := by
      rcases e' with z | z
      · rw [z]; exact Nat.le_add_right _ _
      · rw [z]; exact Nat.le_refl _
    exact I1.fpOk hle (I1.hok.fresh hle)
theorem walk_enumT {K : PySem.W.Frag} {a : Addr} {xs : List V} : Walk (IteT K a) xs.length (fun H => SqT K H a xs) (YPair (fun i => some (.int (i : Nat))) (fun i => xs[i]?)) := by
  refine ⟨fun i _ hi q => ⟨xs, xs[i], q, by simp [hi]⟩, fun _ q => ⟨xs, q, rfl⟩, fun i H v H' _ q y => ?_⟩
  obtain ⟨T, x, h1, h2, h3, h4⟩ := y
  exact ⟨T, .int (i : Nat), x, h1, h2, h3, rfl, h4 xs q⟩
end FM
/-! {k: v for ..} with nested keys. -/
namespace FM
open PySem PySem.Spec PyProof.Rows L2 Evl
section
variable {X : Cx}
/-- one entry of the growing dict at D: its key's tuple bears the key -/
def GivesN (P : Program) (w : World) (K : PySem.W.Frag) (D : Addr) (y z : V) (H : Hp) (N : Hp → Prop) : Prop := ∃ l ks b, y = .ref b ∧ H D = some (NDO P w D l) ∧ Dk K H l ∧ Tv K H (.ref b) (.tup ks) ∧ (NestedKey.tup ks).depth ≤ 8 ∧ l.length < sizeLine ∧
  N (upd H D (NDO P w D (putE l (.tup ks) b z)))
/-- {k: v for target in iter if ..}: D the new dict -/
def tNdc (P : Program) (w : World) (K : PySem.W.Frag) (wi : TI) (g : TG) (tt : TT) (tk tv : TE) (vs : List Nat) : TE := fun σ H Q => wi σ H fun J H1 => ∀ D, H1 D = none → ∃ W : Nat → Nat → Hp → Prop, (∃ m, W 0 m (upd H1 D (NDO P w D []))) ∧ ∀ i m H, W i m H →
  (J.stop i H ∧ Q (.ref D) H) ∨ (J.go i H ∧ ∃ Nx : Hp → Prop, (∀ H', Nx H' → ∃ m', m' < m ∧ W (i + 1) m' H') ∧ ∀ x H', J.yld i H x H' → g x (wipe σ vs) H' fun σ2 H2 => wipe σ2 vs = wipe σ vs ∧ tt σ2 H2 fun b H3 =>
    if b = true then tk σ2 H3 fun y H4 => tv σ2 H4 fun z H5 => GivesN P w K D y z H5 Nx else Nx H3)
theorem ndc_core {pins : List (Addr × Obj)} {s : Shared} {σ : L2.St} {H : Hp} {Q : VK} {kx vx tg iter : Expr} {ifs : List Expr} {scope : Scope} {own : List (Str × Nat)} {pos pos' : Pos} {wi : TI} {g : TG} {tt : TT} {tk tv : TE} {use : Option (Value → Sem Unit)} {Qf : Value → Shared → Prop}
    (hu : X.A.units + 9 < cLine) (hc : X.calm = true) (hN : X.N.Nodup) (I : Inv X pins σ H s) (hi : PI X tg iter wi) (ok : BlkOk X.N X.env.scope scope own)
    (hg : ∀ (s : Shared) (H : Hp) (C : Addr) (cl : List (Str × Addr)) (fp : List Addr), PG (X.blk s H scope (compEnvC scope cl C X.env) fp) tg g) (ht : ∀ (s : Shared) (H : Hp) (C : Addr) (cl : List (Str × Addr)) (fp : List Addr), PTs (X.blk s H scope (compEnvC scope cl C X.env) fp) ifs tt)
    (hk : ∀ (s : Shared) (H : Hp) (C : Addr) (cl : List (Str × Addr)) (fp : List Addr), PE (X.blk s H scope (compEnvC scope cl C X.env) fp) kx tk)
    (he : ∀ (s : Shared) (H : Hp) (C : Addr) (cl : List (Str × Addr)) (fp : List Addr), PE (X.blk s H scope (compEnvC scope cl C X.env) fp) vx tv) (hs : ∀ x, foldedSetIterable iter X.env x = pure x)
    (h : tNdc X.prog X.w X.K wi g tt tk tv (own.map (·.2)) σ H Q)
    (hRR : ∀ D C s' m H', Inv X pins σ H' s' → Q (.ref D) H' → s'.heap.Ns C m → FpOk X pins H' C → compPost (model X.prog X.w) X.A X.xe use Qf (.ref D) C (.ok .next) s') :
    wpAny (model X.prog X.w) X.A (comprehension (.DictComp kx vx [⟨tg, iter, ifs, 0⟩] scope pos) scope X.env pos' newDict false (eval iter X.env) use) Qf X.xe s := by
  have hfree : ∀ y ∈ scope.names, y.2 = .free → ∃ c, X.env.cells.lookup y.1 = some c := fun y hy e => by
    rcases ok.free y hy e with k | k
    · exact I.ok.has _ (.inl k)
    · exact I.ok.has _ (.inr k)
  refine wpAny_comprehension_free (use := use) rfl hs (closure_ok hfree) ok.kind (fun y hy e => by rw [ok.uniq y hy, e])
    (thn (hi.run pins s σ H _ I h) fun xv s1 hx => thn hx fun itv s2 h2 => ?_)
  obtain ⟨it, fp, tn, J, H2, e, I2, T, st2, f2, q⟩ := h2
  subst e
  refine wpAny_newObj_type (newEnv_comp ?_)
  generalize hD : s2.heap.objs.size = D
  have hDn : H2 D = none := I2.hok.fresh (Nat.le_of_eq hD)
  obtain ⟨W, ⟨m0, w0⟩, turn⟩ := q D hDn
  generalize hs3 : ({ s2 with heap := s2.heap.push { cls := .type "dict", data := .dict #[] } } : Shared) = s3
  have I3 : Inv X pins σ (upd H2 D (NDO X.prog X.w D [])) s3 := by
    rw [← hs3]
    refine I2.laid (t' := s2.toks) (fun b o e => Heap.get?_push_of_some _ e) (Nat.le_of_eq hD) ?_
    rw [← hD]
    exact nd_empty s2.heap I2.big
  have h3 : s3.heap = s2.heap.push { cls := .type "dict", data := .dict #[] } := by rw [← hs3]
  have sz : ∀ b ∈ fp, b < s2.heap.objs.size := fun b hb => by
    obtain ⟨o, e, _⟩ := T.obj _ _ st2 b hb
    exact Heap.lt_size e
  have f3 : ∀ b ∈ fp, FpOk X pins (upd H2 D (NDO X.prog X.w D [])) b ∧ b < s3.heap.objs.size := fun b hb => by
    have hlt := sz b hb
    refine ⟨⟨?_, (f2 b hb).2⟩, by rw [h3, Heap.size_push]; exact Nat.lt_succ_of_lt hlt⟩
    rw [upd_ne (by rw [← hD]; exact Nat.ne_of_lt hlt)]
    exact (f2 b hb).1
  have st3 : tn 0 s3.heap := T.keep _ _ _ st2 fun b _ o e => by rw [h3]; exact Heap.get?_push_of_some _ e
  have I4 := block_start I3 ok hN f3
  have pg := hg s3 (upd H2 D (NDO X.prog X.w D [])) s3.heap.objs.size (cellsFrom (s3.heap.objs.size + 1) scope.names (cloFrom X.env.cells scope.names [])) fp
  have pt := ht s3 (upd H2 D (NDO X.prog X.w D [])) s3.heap.objs.size (cellsFrom (s3.heap.objs.size + 1) scope.names (cloFrom X.env.cells scope.names [])) fp
  have pk := hk s3 (upd H2 D (NDO X.prog X.w D [])) s3.heap.objs.size (cellsFrom (s3.heap.objs.size + 1) scope.names (cloFrom X.env.cells scope.names [])) fp
  have pe := he s3 (upd H2 D (NDO X.prog X.w D [])) s3.heap.objs.size (cellsFrom (s3.heap.objs.size + 1) scope.names (cloFrom X.env.cells scope.names [])) fp
  show codeAny _ _ (.compStart (.DictComp kx vx [⟨tg, iter, ifs, 0⟩] scope pos) 0 (.ref it) (.ref D) (compEnvC scope (cellsFrom (s3.heap.objs.size + 1) scope.names (cloFrom X.env.cells scope.names [])) s3.heap.objs.size X.env)) (compPost (model X.prog X.w) X.A X.xe use Qf (.ref D) s3.heap.objs.size) { s3 with heap := pushCells (s3.heap.push { cls := .type "dict", data := .dict #[] }) scope.names }
  have nfp : ∀ b ∈ fp, (upd H2 D (NDO X.prog X.w D [])) b = none := fun b hb => (f3 b hb).1.1
  generalize hce : compEnvC scope (cellsFrom (s3.heap.objs.size + 1) scope.names (cloFrom X.env.cells scope.names [])) s3.heap.objs.size X.env = ce at I4 pg pt pk pe ⊢
  have cL : ce.locals = s3.heap.objs.size := by subst hce; rfl
  generalize hH3 : upd H2 D (NDO X.prog X.w D []) = H3 at I3 I4 pg pt pk pe w0 nfp f3
  generalize hs4 : ({ s3 with heap := pushCells (s3.heap.push { cls := .type "dict", data := .dict #[] }) scope.names } : Shared) = s4 at I4 ⊢
  have st4 : tn 0 s4.heap := T.keep _ _ _ st3 fun b _ o e => by rw [← hs4]; exact pushCells_keeps _ _ _ _ (Heap.get?_push_of_some _ e)
  have stat : ∀ {σ' : L2.St} {H' : Hp} {s' : Shared}, Inv (X.blk s3 H3 scope ce fp) [] σ' H' s' → (∀ b ∈ fp, H' b = none) → ∀ b ∈ fp, FpOk (X.blk s3 H3 scope ce fp) [] H' b := fun {σ' H' s'} I' hn b hb =>
    ⟨hn b hb, (I'.ok.exf b hb).1, I'.ok.exfs b hb, .inl hb, fun x c e => (I'.ok.exf b hb).2 x c e, fun p hp => absurd (show p ∈ ([] : List (Addr × Obj)) ++ [] from hp) (by simp)⟩
  have loop : codeAny (model X.prog X.w) X.A (.compLoop (.DictComp kx vx [⟨tg, iter, ifs, 0⟩] scope pos) 0 (.ref it) (.ref D) ce) (compPost (model X.prog X.w) X.A X.xe use Qf (.ref D) s3.heap.objs.size) s4 := by
    refine compLoop_anyD (fun n s' => ∃ i H', Inv (X.blk s3 H3 scope ce fp) [] (wipe σ (own.map (·.2))) H' s' ∧ tn i s'.heap ∧ (∀ b ∈ fp, H' b = none) ∧ W i n H') ?_ m0 ⟨0, H3, I4, st4, nfp, w0⟩
    rintro n s5 ⟨i, H5, I5, st5, n5, w5⟩
    rcases turn i n H5 w5 with ⟨stop, qq⟩ | ⟨go, Nx, hNx, step⟩
    · have td := T.done (X.blk s3 H3 scope ce fp) rfl rfl rfl hc i [] s5 _ H5 (fun _ _ => False) I5 (stat I5 n5) st5 stop
      refine thnF td fun r s6 ⟨hr, I6⟩ => ?_
      subst hr
      have I7 : Inv X pins σ H5 s6 := I3.call' (ch := fp) I6.os I6.base I6.hok I6.bare fun b hb => ⟨(f3 b hb).1.2.2.2.1, (f3 b hb).1.2.1, (f3 b hb).1.2.2.2.2.1, (f3 b hb).1.2.2.2.2.2⟩
      have nC : H5 s3.heap.objs.size = none := by
        have z : H5 ce.locals = none := I6.free
        rw [cL] at z
        exact z
      obtain ⟨m, hn, _⟩ := I6.loc
      have hn : s6.heap.Ns ce.locals m := hn
      rw [cL] at hn
      exact hRR D s3.heap.objs.size s6 m H5 I7 qq hn (I3.fpOk (Nat.le_refl _) nC)
    · have ti := T.item (X.blk s3 H3 scope ce fp) rfl rfl rfl hc i [] s5 _ H5 (fun _ _ => False) I5 (stat I5 n5) st5 go
      refine thnF ti fun r s6 ⟨u, hr, h6⟩ => ?_
      subst hr
      refine thnF h6 fun _ s7 ⟨x, H7, I7, r7, y7, st7, n7⟩ => ?_
      have I7' := I7.pinned (stat I7 n7) (T.obj _ _ st7)
      refine thnF (pg.run _ s7 _ H7 x u _ I7' r7 (step x H7 y7)) fun _ s8 ⟨σ8, H8, I8, hw8, q8⟩ => ?_
      refine thnF (pt.run _ s8 σ8 H8 _ I8 q8) fun b s9 ⟨H9, I9, q9⟩ => ?_
      have fin : ∀ {s' : Shared} {H' : Hp}, Inv (X.blk s3 H3 scope ce fp) ([] ++ pinsAt fp s7.heap) σ8 H' s' → Nx H' → ∃ m, m < n ∧ ∃ i H', Inv (X.blk s3 H3 scope ce fp) [] (wipe σ (own.map (·.2))) H' s' ∧ tn i s'.heap ∧ (∀ b ∈ fp, H' b = none) ∧ W i m H' := fun {s' H'} I' nx => by
        obtain ⟨m', hm, w'⟩ := hNx H' nx
        have pin' : ∀ b ∈ fp, ∀ o, s7.heap.get? b = some o → s'.heap.get? b = some o ∧ H' b = none := fun b hb o e =>
          let z := I'.pin (b, o) (List.mem_append_right _ (List.mem_append_right _ (mem_pinsAt hb e)))
          ⟨z.1, z.2.1⟩
        have hl : (wipe σ (own.map (·.2))).length = σ8.length := by rw [← hw8, wipe_length]
        refine ⟨m', hm, i + 1, H', (I'.unpinned (pins := [])).weak hl (fun j v e => ?_), T.keep _ _ _ st7 fun b hb o e => (pin' b hb o e).1, fun b hb => ?_, w'⟩
        · rw [← hw8] at e
          exact (wipe_some e).1
        · obtain ⟨o, e, _⟩ := T.obj _ _ st7 b hb
          exact (pin' b hb o e).2
      cases b with
      | false =>
        simp only [Bool.false_eq_true, if_false] at q9 ⊢
        exact fin I9 q9
      | true =>
        simp only [if_true] at q9 ⊢
        refine thnF (pk.run _ s9 σ8 H9 _ I9 q9) fun z s10 ⟨yk, H10, I10, r10, q10⟩ => ?_
        refine thnF (pe.run _ s10 σ8 H10 _ I10 q10) fun z2 s11 ⟨yv, H11, I11, r11, l, ks, b, ek, hD11, hk11, hb11, hd11, hz11, nx⟩ => ?_
        subst ek
        exact nd_dictSet (X := X.blk s3 H3 scope ce fp) hu I11 hD11 hk11 hz11 hb11 hd11 r10 r11 fun s12 I12 => fin I12 nx
  exact codeAny_compStart_dict loop (T.self X.A 0 _ _ _ st4 loop)
theorem pe_ndc {kx vx tg iter : Expr} {ifs : List Expr} {scope : Scope} {own : List (Str × Nat)} {pos : Pos} {wi : TI} {g : TG} {tt : TT} {tk tv : TE} (hu : X.A.units + 9 < cLine) (hc : X.calm = true) (hN : X.N.Nodup) (hi : PI X tg iter wi) (ok : BlkOk X.N X.env.scope scope own)
    (hg : ∀ (s : Shared) (H : Hp) (C : Addr) (cl : List (Str × Addr)) (fp : List Addr), PG (X.blk s H scope (compEnvC scope cl C X.env) fp) tg g) (ht : ∀ (s : Shared) (H : Hp) (C : Addr) (cl : List (Str × Addr)) (fp : List Addr), PTs (X.blk s H scope (compEnvC scope cl C X.env) fp) ifs tt)
    (hk : ∀ (s : Shared) (H : Hp) (C : Addr) (cl : List (Str × Addr)) (fp : List Addr), PE (X.blk s H scope (compEnvC scope cl C X.env) fp) kx tk)
    (he : ∀ (s : Shared) (H : Hp) (C : Addr) (cl : List (Str × Addr)) (fp : List Addr), PE (X.blk s H scope (compEnvC scope cl C X.env) fp) vx tv) (hs : ∀ x, foldedSetIterable iter X.env x = pure x := by intro _; rfl) :
    PE X (.DictComp kx vx [⟨tg, iter, ifs, 0⟩] scope pos) (tNdc X.prog X.w X.K wi g tt tk tv (own.map (·.2))) := by
  refine ⟨fun pins s σ H Q I h => ?_⟩
  rw [arm_eval_DictComp]
  refine ndc_core hu hc hN I hi ok hg ht hk he hs h fun D C s' m H' I' q hn f => ⟨m, hn, fun h'' sb => ?_⟩
  obtain ⟨f0, f1, f2, f3, f4, f5⟩ := f
  exact ⟨.ref D, H', I'.turned (t' := s'.toks) (fun b o hb e => (sb.2 b hb).trans e) f0 f1 f3 f4 f5, rfl, q⟩
/-- name = {k: v for ..} on one line, the name a local -/
theorem ps_setNdc {i : Nat} {y : Str} {py : Pos} {kx vx tg iter : Expr} {ifs : List Expr} {scope : Scope} {own : List (Str × Nat)} {pos spos : Pos} {wi : TI} {g : TG} {tt : TT} {tk tv : TE} (hu : X.A.units + 9 < cLine) (hc : X.calm = true) (hN : X.N.Nodup) (hy : X.N[i]? = some y) (hyl : X.env.scope.names.lookup y = some .local)
    (hsw : swapsWith (.DictComp kx vx [⟨tg, iter, ifs, 0⟩] scope pos) (some (.Name y py)) spos.line X.env = pure true) (hi : PI X tg iter wi) (ok : BlkOk X.N X.env.scope scope own)
    (hg : ∀ (s : Shared) (H : Hp) (C : Addr) (cl : List (Str × Addr)) (fp : List Addr), PG (X.blk s H scope (compEnvC scope cl C X.env) fp) tg g) (ht : ∀ (s : Shared) (H : Hp) (C : Addr) (cl : List (Str × Addr)) (fp : List Addr), PTs (X.blk s H scope (compEnvC scope cl C X.env) fp) ifs tt)
    (hk : ∀ (s : Shared) (H : Hp) (C : Addr) (cl : List (Str × Addr)) (fp : List Addr), PE (X.blk s H scope (compEnvC scope cl C X.env) fp) kx tk)
    (he : ∀ (s : Shared) (H : Hp) (C : Addr) (cl : List (Str × Addr)) (fp : List Addr), PE (X.blk s H scope (compEnvC scope cl C X.env) fp) vx tv) (hs : ∀ x, foldedSetIterable iter X.env x = pure x := by intro _; rfl) :
    PS X (.Assign [.Name y py] (.DictComp kx vx [⟨tg, iter, ifs, 0⟩] scope pos) spos) (tAsg (tNdc X.prog X.w X.K wi g tt tk tv (own.map (·.2))) (gName i)) := by
  refine ⟨fun pins s σ H D I h => ?_⟩
  rw [exec_Assign_Name_used _ _ _ _ hsw]
  refine wpAny_bind (wpAny_standAt (wpAny_bind ?_))
  show wpAny _ X.A (do let _ ← comprehension (.DictComp kx vx [⟨tg, iter, ifs, 0⟩] scope pos) scope X.env (firstIterPos [⟨tg, iter, ifs, 0⟩] pos) newDict false (eval iter X.env) (some (assign (.Name y py) X.env))) _ _ s
  have h : tNdc X.prog X.w X.K wi g tt tk tv (own.map (·.2)) σ H (fun x H1 => gName i x σ H1 D.nx) := h
  refine wpAny_bind (thn (ndc_core (Qf := fun _ s' => SP X pins D .next s') hu hc hN I hi ok hg ht hk he hs h fun L C s' m H' I' q hn f => ?_) fun _ s' hq => wpAny_pure (wpAny_pure hq))
  show wpAny _ _ (assign (.Name y py) X.env (.ref L)) _ _ _
  refine wpAny_assign_Name (store_ok2 (v := V.ref L) I' hN hy (.inl hyl) rfl (fun s2 I2 ⟨a, sb, ha⟩ => ?_) (.inr hyl))
  obtain ⟨f0, f1, f2, f3, f4, f5⟩ := f
  have haC : C ≠ a := by
    rcases ha with z | z
    · rw [z]; exact f1
    · exact fun e => f4 y a z e.symm
  refine ⟨m, hn.sameBut sb haC, fun h3 sb3 => ?_⟩
  exact ⟨_, H', I2.turned (t' := s2.toks) (fun b o hb e => (sb3.2 b hb).trans e) f0 f1 f3 f4 f5, q⟩
theorem sw_trueD {kx vx : Expr} {gs : List Comprehension} {scope : Scope} {pos py : Pos} {y : Str} {l : Nat} {env : Env} (hk : env.scope.kind = .function) (hy : env.scope.names.lookup y = some .local) (hl : (py.line == pos.line) = true)
    (ha : (scope.names.any fun (n, k) => n == y && (k == .local || k == .cell)) = false) : swapsWith (.DictComp kx vx gs scope pos) (some (.Name y py)) l env = pure true := by
  have ky : env.kindOf y = some .local := hy
  have hb : env.blockKind = .function := by unfold Env.blockKind; rw [hk]; rfl
  unfold swapsWith
  simp only [hb, ky, ha, Expr.pos, hl]
  rfl
/-- over what a walk tells -/
theorem ndc_it {P : Program} {w : World} {K : PySem.W.Frag} {J : It} {n : Nat} {G : Hp → Prop} {Y : Nat → Hp → V → Hp → Prop} (wk : Walk J n G Y) {g : TG} {tt : TT} {tk tv : TE} {vs : List Nat} {σ : L2.St} {H1 : Hp} {D : Addr} {Qd : Hp → Prop} (Pv : Nat → Hp → Prop) (h0 : Pv 0 (upd H1 D (NDO P w D [])))
    (hG : ∀ i H, i ≤ n → Pv i H → G H)
    (hs : ∀ i x H H', i < n → Pv i H → Y i H x H' → g x (wipe σ vs) H' fun σ2 H2 => wipe σ2 vs = wipe σ vs ∧ tt σ2 H2 fun b H3 =>
      if b = true then tk σ2 H3 fun y H4 => tv σ2 H4 fun z H5 => GivesN P w K D y z H5 (Pv (i + 1)) else Pv (i + 1) H3) (hd : ∀ H, Pv n H → Qd H) :
    ∃ W : Nat → Nat → Hp → Prop, (∃ m, W 0 m (upd H1 D (NDO P w D []))) ∧ ∀ i m H, W i m H →
      (J.stop i H ∧ Qd H) ∨ (J.go i H ∧ ∃ Nx : Hp → Prop, (∀ H', Nx H' → ∃ m', m' < m ∧ W (i + 1) m' H') ∧ ∀ x H', J.yld i H x H' → g x (wipe σ vs) H' fun σ2 H2 => wipe σ2 vs = wipe σ vs ∧ tt σ2 H2 fun b H3 =>
        if b = true then tk σ2 H3 fun y H4 => tv σ2 H4 fun z H5 => GivesN P w K D y z H5 Nx else Nx H3) := by
  refine ⟨fun i m H => m = n - i ∧ i ≤ n ∧ Pv i H, ⟨n, by simp, Nat.zero_le _, h0⟩, ?_⟩
  rintro i m H ⟨rfl, hi, p⟩
  have q := hG i H hi p
  by_cases hlt : i < n
  · exact .inr ⟨wk.goes i H hlt q, Pv (i + 1), fun H' p' => ⟨n - (i + 1), by omega, rfl, hlt, p'⟩, fun x H' y => hs i x H H' hlt p (wk.yields i H x H' hlt q y)⟩
  · have e : i = n := by omega
    subst e
    exact .inl ⟨wk.stops H q, hd H p⟩
end
end FM
/-! dict(d), dict(list of pairs), dict(zip(list, tuple)): keys nested tuples. -/
namespace FM
open PySem PySem.Spec PyProof.Rows L2 Evl
open Sem (wp)

section
variable {prog : Program} {w : World} {A : Around} {E : Value → Shared → Prop} {s : Shared} {K : Type} [DecidableEq K] {knd : HeapKind prog w K} {a : Addr}
theorem call_dict_copyH {xs : List (K × Addr × Value)} {Q : Value → Shared → Prop} (hu : knd.room A.in1.in1) (hd : (a == sysModules) = false) (ho : s.heap.DictOfH knd a xs) (hsz : xs.length ≤ sizeLine) (hty : ∀ x ∈ xs, s.TypeIs (.ref x.2.1) "tuple") (hap : (xs.map fun x => knd.hash x.1).Nodup)
    (hst : ∀ h', (∀ b o, s.heap.get? b = some o → h'.get? b = some o) → ∀ x ∈ xs, knd.is h' x.1 x.2.1)
    (h : ∀ h', h'.DictOfH knd s.heap.objs.size xs → (∀ b o, s.heap.get? b = some o → h'.get? b = some o) → Q (.ref s.heap.objs.size) { s with heap := h' }) : wpAny (model prog w) A (call (.type "dict") [.ref a]) Q E s := by
  have hlt : a < s.heap.objs.size := ho.lt_size
  refine callType_codes (Q₁ := fun obj s₁ => obj = .ref s.heap.objs.size ∧ s₁ = { s with heap := s.heap.push { cls := .type "dict", data := .dict #[] } }) F.kt_called_dict (F.kt_typeCall_dict_1 _) F.entry_dict_init (kt_code_dict_new _ ⟨rfl, rfl⟩) ?_
  rintro obj s₁ ⟨rfl, rfl⟩
  have hT : Shared.TypeIs { s with heap := s.heap.push { cls := .type "dict", data := .dict #[] } } (.ref s.heap.objs.size) "dict" := ⟨_, Heap.get?_push_size _ rfl, rfl⟩
  refine ⟨hT, F.args_dict_init_2 _ _, ?_⟩
  unfold Builtin.«dict.__init__»
  refine wpAny_bind ?_
  unfold Builtin.Dict.selfAndRest
  refine wpAny_bind (wpAny_notOrdered_dict hT ?_)
  show wpAny _ _ (pure (s.heap.objs.size, [Value.ref a])) _ _ _
  refine wpAny_pure ?_
  refine updateFrom_dictH (A := A.in1) (knd := knd) (kvs := []) (more := xs) .none hu (Nat.ne_of_gt hlt) hd (Heap.DictOfH.new s.heap) (ho.at' (fun o e => Heap.get?_push_of_some _ e) (hst _ fun b o e => Heap.get?_push_of_some _ e)) (.inr ⟨fun x hx => ?_, hap⟩) (by simpa using hsz) fun h' hd' _ hs' => ?_
  · obtain ⟨o, e, c⟩ := hty x hx
    exact ⟨o, Heap.get?_push_of_some _ e, c⟩
  · rw [storedAllH_nil_of_nodup xs ho.nodup] at hd'
    exact ⟨rfl, h h' hd' fun b o e => (hs'.2 b (Nat.ne_of_lt (Heap.lt_size e))).trans (Heap.get?_push_of_some _ e)⟩
end
section
variable {X : Cx}
/-- what lies in the new dict, at the values -/
theorem nd_fresh {pins : List (Addr × Obj)} {σ : L2.St} {H : Hp} {s : Shared} {h' : Heap} {t' : Nat} {l : List Ent} {xs : List (NestedKey × Addr × Value)} (I : Inv X pins σ H s) (k : ∀ b u, s.heap.get? b = some u → h'.get? b = some u) {p : Addr} (hp : s.heap.objs.size ≤ p) (z : l.length ≤ sizeLine) (r : ER l xs)
    (dd : h'.DictOfH (nestedKind X.prog X.w) p xs) : Inv X pins σ (upd H p (NDO X.prog X.w p l)) { s with heap := h', toks := t' } :=
  I.laid (a := p) (o := NDO X.prog X.w p l) (t' := t') k hp (nd_obj z (beq_eq_false_iff_ne.mpr (Nat.ne_of_gt (Nat.lt_of_lt_of_le I.big hp))) r dd)
theorem nd_tuple {pins : List (Addr × Obj)} {σ : L2.St} {H : Hp} {s : Shared} (I : Inv X pins σ H s) {b : Addr} {ks : List NestedKey} (h : Tv X.K H (.ref b) (.tup ks)) : s.TypeIs (.ref b) "tuple" := by
  have := Tv.is I _ _ (.ref b) h rfl
  cases this with
  | tup ho hc hd _ => exact ⟨_, ho, hc⟩
theorem er_nodup {l : List Ent} {ys : List (NestedKey × Addr × Value)} (r : ER l ys) : ys.map (·.1) = l.map (·.1) := by
  induction r with
  | nil => rfl
  | cons h t ih => rw [List.map_cons, List.map_cons, ih, h.1]
/-- dict(d): keys that are tuples, their hashes apart -/
theorem call_ndDict (hu : X.A.units + 20 < cLine) : CallR X (.type "dict") (fun xs H Q => ∃ (a : Addr) (l : List Ent), xs = [.ref a] ∧ Rd H a (NDO X.prog X.w a l) ∧ Dk X.K H l ∧ (∀ e ∈ l, ∃ ks, e.1 = .tup ks) ∧ (l.map fun e => e.1.hash X.w).Nodup ∧ ∀ p, H p = none → Q (.ref p) (upd H p (NDO X.prog X.w p l))) := by
  intro pins s σ H xs us Q I r h
  obtain ⟨a, l, rfl, hr, hk, ht, hn, q⟩ := h
  obtain ⟨u, rfl, rx⟩ := vals1 r
  obtain rfl : u = .ref a := rx
  obtain ⟨z, hd, ys, rel, dd⟩ := nd_raw I hr hk
  refine call_dict_copyH (knd := nestedKind X.prog X.w) (by show X.A.units + 1 + 1 + 8 < cLine; omega) hd dd (by rw [← Paired.length rel]; exact z) (fun y hy => ?_) ?_ (fun h' k y hy => ?_) fun h' dd' k => ?_
  · obtain ⟨e, he, e1, e2, _⟩ := rel.mem y hy
    rw [← e2]
    obtain ⟨ks, hks⟩ := ht e he
    have := (hk e he).1
    rw [hks] at this
    exact nd_tuple I this
  · have e : (ys.map fun x => (nestedKind X.prog X.w).hash x.1) = l.map fun e => e.1.hash X.w := by
      have : ys.map (·.1) = l.map (·.1) := er_nodup rel
      have := congrArg (List.map fun k : NestedKey => k.hash X.w) this
      rw [List.map_map, List.map_map] at this
      exact this
    rw [e]
    exact hn
  · obtain ⟨e, he, e1, e2, _⟩ := rel.mem y hy
    rw [← e1, ← e2]
    exact nd_key (I.kept (t' := s.toks) k) (hk e he).1 (hk e he).2
  · exact ⟨.ref s.heap.objs.size, _, nd_fresh (t' := s.toks) I k (Nat.le_refl _) z rel dd', rfl, q _ I.fresh⟩

/-- entries told by pairs of values -/
def PrE (K : PySem.W.Frag) (H : Hp) (xs : List V) (l : List Ent) : Prop := xs.length = l.length ∧ ∀ (i : Nat) (e : Ent), l[i]? = some e → ∃ T : Addr, xs[i]? = some (V.ref T) ∧ SqT K H T [V.ref e.2.1, e.2.2]
theorem er_exists : ∀ (l : List Ent) (f : Nat → Value), (∀ (i : Nat) (e : Ent), l[i]? = some e → RelV e.2.2 (f i)) → ∃ ys, ER l ys ∧ ∀ i, ys[i]? = (l[i]?).map fun e => (e.1, e.2.1, f i)
  | [], f, _ => ⟨[], .nil, fun i => by simp⟩
  | e :: l, f, h => by
    obtain ⟨ys, h1, h2⟩ := er_exists l (fun i => f (i + 1)) fun i x hx => h (i + 1) x (by simpa using hx)
    refine ⟨(e.1, e.2.1, f 0) :: ys, .cons ⟨rfl, rfl, h 0 e rfl⟩ h1, fun i => ?_⟩
    cases i with
    | zero => rfl
    | succ i => simpa using h2 i
open Classical in
/-- dict([(k, v), ..]): keys apart -/
theorem call_ndPairs (hc : X.calm = true) (hu : X.A.units + 20 < cLine) : CallR X (.type "dict") (fun xs H Q => ∃ (a : Addr) (vs : List V) (l : List Ent), xs = [.ref a] ∧ SqL X.K H a vs ∧ PrE X.K H vs l ∧ Dk X.K H l ∧ (l.map (·.1)).Nodup ∧ ∀ p, H p = none → Q (.ref p) (upd H p (NDO X.prog X.w p l))) := by
  intro pins s σ H xs us Q I r h
  obtain ⟨a, vs, l, rfl, hl, hp, hk, hn, q⟩ := h
  obtain ⟨u, rfl, rx⟩ := vals1 r
  obtain rfl : u = .ref a := rx
  obtain ⟨its, rv, hL, z⟩ := I.list hl
  have hlen : its.length = l.length := by rw [← rv.length]; exact hp.1
  -- the pairs' own values
  have hT : ∀ (i : Nat) (e : Ent), l[i]? = some e → ∃ (T : Addr) (u : Value), its[i]? = some (.ref T) ∧ s.heap.IsTuple T #[.ref e.2.1, u] ∧ RelV e.2.2 u := by
    intro i e he
    obtain ⟨T, hx, ht⟩ := hp.2 i e he
    obtain ⟨w', hw, rw'⟩ := rv.get hx
    obtain rfl : w' = .ref T := rw'
    obtain ⟨its', rv', ⟨o, ho, hcl, n, hd⟩, _⟩ := I.tuple ht
    obtain ⟨u1, u2, rfl, r1, r2⟩ := rv'.two
    obtain rfl : u1 = .ref e.2.1 := r1
    exact ⟨T, u2, hw, ⟨o, ho, hcl, n, hd⟩, r2⟩
  let Ts : Nat → Addr := fun i => match its[i]? with | some (.ref T) => T | _ => 0
  let F : Nat → Value := fun i => match l[i]? with | some e => if h : ∃ u, s.heap.IsTuple (Ts i) #[.ref e.2.1, u] ∧ RelV e.2.2 u then h.choose else .none | none => .none
  have hF : ∀ (i : Nat) (e : Ent), l[i]? = some e → its[i]? = some (.ref (Ts i)) ∧ s.heap.IsTuple (Ts i) #[.ref e.2.1, F i] ∧ RelV e.2.2 (F i) := by
    intro i e he
    obtain ⟨T, u, h1, h2, h3⟩ := hT i e he
    have eT : Ts i = T := by show (match its[i]? with | some (.ref T) => T | _ => 0) = T; rw [h1]
    have ex : ∃ u, s.heap.IsTuple (Ts i) #[.ref e.2.1, u] ∧ RelV e.2.2 u := ⟨u, eT ▸ h2, h3⟩
    have eF : F i = ex.choose := by
      show (match l[i]? with | some e => if h : ∃ u, s.heap.IsTuple (Ts i) #[.ref e.2.1, u] ∧ RelV e.2.2 u then h.choose else .none | none => .none) = _
      rw [he]
      exact dif_pos ex
    rw [eF]
    exact ⟨by rw [eT]; exact h1, ex.choose_spec⟩
  obtain ⟨ys, hr, hy⟩ := er_exists l F fun i e he => (hF i e he).2.2
  have hyl : ys.length = l.length := (Paired.length hr).symm
  let ps : List (Value × Value) := ys.map fun y => (.ref y.2.1, y.2.2)
  have hps : ps.length = l.length := by show (ys.map _).length = _; rw [List.length_map, hyl]
  have P := PairArg.list (prog := X.prog) (w := X.w) a its.toArray Ts ps
  obtain ⟨o, ho, hcl, n, hdd, hdat⟩ : ∃ o, s.heap.get? a = some o ∧ o.cls = .type "list" ∧ ∃ n, o.dict = none ∧ o.data = .seq its.toArray n := by
    obtain ⟨o, n, ho, h1, h2, h3⟩ := hL
    exact ⟨o, ho, h1, n, h2, h3⟩
  have hnod : (ys.map (·.1)).Nodup := by rw [er_nodup hr]; exact hn
  refine call_dict_pairsH (knd := nestedKind X.prog X.w) (ps := ys) P (I.ok.hd hc) (by show X.A.units + 1 + 1 + 8 < cLine; omega) ⟨⟨o, n, ho, hcl, hdd, hdat⟩, by simp [hlen, hps], fun j k v hj => ?_⟩ ⟨by rw [hyl, hps], fun i k v hi => ?_⟩ (fun h' k y hy' => ?_) (by rw [hps, ← hlen, ← rv.length]; exact z) fun h' tk dd' k => ?_
  · have hj' : (ys.map fun y => ((.ref y.2.1, y.2.2) : Value × Value))[j]? = some (k, v) := hj
    rw [List.getElem?_map, hy j] at hj'
    cases e : l[j]? with
    | none => rw [e] at hj'; cases hj'
    | some x =>
      rw [e] at hj'
      cases hj'
      obtain ⟨h1, h2, _⟩ := hF j x e
      exact ⟨by simpa using h1, .inl h2⟩
  · have hi' : (ys.map fun y => ((.ref y.2.1, y.2.2) : Value × Value))[i]? = some (k, v) := hi
    rw [List.getElem?_map] at hi'
    cases e : ys[i]? with
    | none => rw [e] at hi'; cases hi'
    | some y =>
      rw [e] at hi'
      cases hi'
      exact ⟨y.1, y.2.1, rfl, rfl⟩
  · obtain ⟨e, he, e1, e2, _⟩ := hr.mem y hy'
    rw [← e1, ← e2]
    exact nd_key (I.kept (t' := s.toks) (h' := h') fun b u q => k b u (Nat.ne_of_lt (Heap.lt_size q)) (fun z => nomatch z) q) (hk e he).1 (hk e he).2
  · rw [storedAllH_nil_of_nodup ys hnod] at dd'
    exact ⟨.ref s.heap.objs.size, _, nd_fresh (t' := tk) I (fun b u e => k b u (fun z => nomatch z) e) (Nat.le_refl _) (by rw [← hlen, ← rv.length]; exact z) hr dd', rfl, q _ I.fresh⟩
end
end FM
/-! dict(zip(list, tuple)): keys nested tuples. -/
namespace FM
open PySem PySem.Spec PyProof.Rows L2 Evl
open Sem (wp)

section
variable {prog : Program} {w : World} {A : Around} {E : Value → Shared → Prop} {s : Shared} {z TI TO i1 i2 T : Addr} {f : Bool} {oT : Obj} {fp1 fp2 : List Addr} {n1 n2 i : Nat} {P1 P2 : Nat → Value → Prop} {St1 St2 : Nat → Heap → Prop}
theorem zh_next_item {Q : Value → Shared → Prop} (S : ZipSep2 z TI TO i1 i2 fp1 fp2) (D1 : Draws prog w A i1 fp1 n1 P1 St1) (D2 : Draws prog w A i2 fp2 n2 P2 St2)
    (hz : IsZipHeld s.heap z TI TO T f) (hT : s.heap.get? T = some oT) (hTI : IsTupOf2 s.heap TI (.ref i1) (.ref i2)) (st1 : St1 i s.heap) (st2 : St2 i s.heap) (hlt1 : i < n1) (hlt2 : i < n2)
    (hQ : ∀ x1 x2 h' tk, P1 i x1 → P2 i x2 → IsZipHeld h' z TI TO T true → St1 (i + 1) h' → St2 (i + 1) h' → IsTupOf2 h' s.heap.objs.size x1 x2 → h'.objs.size = s.heap.objs.size + 1 →
      (∀ c o, c ≠ z → c ≠ i1 → c ≠ i2 → s.heap.get? c = some o → h'.get? c = some o) → Q (.ref s.heap.objs.size) { s with heap := h', toks := tk }) :
    wpAny (model prog w) A (Builtin.«zip.__next__» ⟨[.ref z], []⟩) (fun fin s' => ∃ v, fin = .done (.ret v) ∧ Q v s') E s := by
  obtain ⟨hp, g, d, tk0, os⟩ := s
  show wpAny _ _ (field (.ref z) 2 >>= _) _ _ _
  refine wpAny_bind (wpAny_field hz rfl (x := .bool false) rfl ?_)
  show wpAny _ _ (field (.ref z) 3 >>= _) _ _ _
  refine wpAny_bind (wpAny_field hz rfl (x := .ref TI) rfl ?_)
  refine wpAny_bind (wpAny_seqItems hTI rfl ?_)
  show wpAny _ _ (Builtin.SmallTypes.ownedTupleIsFree (.ref z) >>= _) _ _ _
  refine wpAny_bind (wpAny_tupleHeld_zip hz hT fun h₁ hz₁ hs₁ => ?_)
  replace hs₁ : Heap.SameBut z hp h₁ := hs₁
  simp only [Bool.false_eq_true, if_false]
  refine wpAny_bind ?_
  rw [← Array.forIn_toList]
  simp only [List.forIn_cons, List.forIn_nil]
  refine wpAny_bind (wpAny_bind (wpAny_holding ?_))
  show wpAny _ _ (Builtin.SmallTypes.nextOf (.ref i1) >>= _) _ _ ⟨h₁, g, d, tk0, os⟩
  refine wpAny_bind (D1.item i _ _ _ hlt1 (D1.over st1 hs₁ S.zf1) fun x1 p1 tk1 hx1 sn1 hp1 => wpAny_pure ?_)
  replace hp1 : Heap.SameBut i1 h₁ p1 := hp1
  refine wpAny_pure ?_
  refine wpAny_bind (wpAny_bind (wpAny_holding ?_))
  show wpAny _ _ (Builtin.SmallTypes.nextOf (.ref i2) >>= _) _ _ ⟨p1, g, d, tk1, os⟩
  refine wpAny_bind (D2.item i _ _ _ hlt2 (D2.over (D2.over st2 hs₁ S.zf2) hp1 S.sep1_2) fun x2 p2 tk2 hx2 sn2 hp2 => wpAny_pure ?_)
  replace hp2 : Heap.SameBut i2 p1 p2 := hp2
  refine wpAny_pure (wpAny_pure ?_)
  show wpAny _ _ (newTuple [x1, x2] >>= _) _ _ ⟨p2, g, d, tk2, os⟩
  refine wpAny_bind (wpAny_newTuple ?_)
  have hsz : p2.objs.size = hp.objs.size := by rw [hp2.1, hp1.1, hs₁.1]
  have hzz : IsZipHeld p2 z TI TO T true := hp2.extBut _ _ S.zi2 (hp1.extBut _ _ S.zi1 hz₁)
  have hkk : ∀ c o, c ≠ z → c ≠ i1 → c ≠ i2 → hp.get? c = some o → p2.get? c = some o := fun c o cz c1 c2 e => hp2.extBut _ _ c2 (hp1.extBut _ _ c1 (hs₁.extBut _ _ cz e))
  refine wpAny_pure ⟨_, rfl, ?_⟩
  show Q (.ref p2.objs.size) ⟨p2.push { cls := .type "tuple", data := .seq #[x1, x2] }, g, d, tk2, os⟩
  have hT' : IsTupOf2 (p2.push { cls := .type "tuple", data := .seq #[x1, x2] }) p2.objs.size x1 x2 := Heap.get?_push_size _ rfl
  have hz4 : (p2.push { cls := .type "tuple", data := .seq #[x1, x2] }).objs.size = p2.objs.size + 1 := Heap.size_push ..
  rw [hsz] at hT' hz4 ⊢
  exact hQ x1 x2 _ tk2 hx1 hx2 (Heap.get?_push_of_some _ hzz) (D1.frame _ _ _ (D1.over sn1 hp2 S.sep2_1) fun b hb o e => Heap.get?_push_of_some _ e) (D2.frame _ _ _ sn2 fun b hb o e => Heap.get?_push_of_some _ e) hT' hz4 fun c o cz c1 c2 e => Heap.get?_push_of_some _ (hkk c o cz c1 c2 e)
theorem zh_next_end {Q : Fin → Shared → Prop} (S : ZipSep2 z TI TO i1 i2 fp1 fp2) (D1 : Draws prog w A i1 fp1 n1 P1 St1) (D2 : Draws prog w A i2 fp2 n2 P2 St2)
    (hz : IsZipHeld s.heap z TI TO T f) (hT : s.heap.get? T = some oT) (hTI : IsTupOf2 s.heap TI (.ref i1) (.ref i2)) (st1 : St1 i s.heap) (st2 : St2 i s.heap) (hle1 : i ≤ n1) (hle2 : i ≤ n2) (hend : i = n1 ∨ i = n2)
    (hE : ∀ h' tk e, (∀ c o, c ≠ z → c ≠ i1 → c ≠ i2 → s.heap.get? c = some o → h'.get? c = some o) → (∃ o, h'.get? e = some o ∧ o.cls = .type "StopIteration") → E (.ref e) { s with heap := h', toks := tk }) :
    wpAny (model prog w) A (Builtin.«zip.__next__» ⟨[.ref z], []⟩) Q E s := by
  obtain ⟨hp, g, d, tk0, os⟩ := s
  show wpAny _ _ (field (.ref z) 2 >>= _) _ _ _
  refine wpAny_bind (wpAny_field hz rfl (x := .bool false) rfl ?_)
  show wpAny _ _ (field (.ref z) 3 >>= _) _ _ _
  refine wpAny_bind (wpAny_field hz rfl (x := .ref TI) rfl ?_)
  refine wpAny_bind (wpAny_seqItems hTI rfl ?_)
  show wpAny _ _ (Builtin.SmallTypes.ownedTupleIsFree (.ref z) >>= _) _ _ _
  refine wpAny_bind (wpAny_tupleHeld_zip hz hT fun h₁ hz₁ hs₁ => ?_)
  replace hs₁ : Heap.SameBut z hp h₁ := hs₁
  simp only [Bool.false_eq_true, if_false]
  refine wpAny_bind ?_
  rw [← Array.forIn_toList]
  simp only [List.forIn_cons, List.forIn_nil]
  refine wpAny_bind (wpAny_bind (wpAny_holding ?_))
  show wpAny _ _ (Builtin.SmallTypes.nextOf (.ref i1) >>= _) _ _ ⟨h₁, g, d, tk0, os⟩
  by_cases hlt1 : i < n1
  · refine wpAny_bind (D1.item i _ _ _ hlt1 (D1.over st1 hs₁ S.zf1) fun x1 p1 tk1 hx1 sn1 hp1 => wpAny_pure ?_)
    replace hp1 : Heap.SameBut i1 h₁ p1 := hp1
    refine wpAny_pure ?_
    refine wpAny_bind (wpAny_bind (wpAny_holding ?_))
    show wpAny _ _ (Builtin.SmallTypes.nextOf (.ref i2) >>= _) _ _ ⟨p1, g, d, tk1, os⟩
    have hi2 : i = n2 := by omega
    refine wpAny_bind (D2.done ⟨p1, g, d, tk1, os⟩ _ _ (by rw [← hi2]; exact D2.over (D2.over st2 hs₁ S.zf2) hp1 S.sep1_2) fun q e hq he => ?_)
    replace hq : Heap.ExtBut i2 p1 q := hq
    exact hE q tk1 e (fun c o cz c1 c2 x => hq _ _ c2 (hp1.extBut _ _ c1 (hs₁.extBut _ _ cz x))) he
  · have hi1 : i = n1 := by omega
    refine wpAny_bind (D1.done ⟨h₁, g, d, tk0, os⟩ _ _ (by rw [← hi1]; exact D1.over st1 hs₁ S.zf1) fun q e hq he => ?_)
    replace hq : Heap.ExtBut i1 h₁ q := hq
    exact hE q tk0 e (fun c o cz c1 c2 x => hq _ _ c1 (hs₁.extBut _ _ cz x)) he
theorem zh_item {Q : Option Value → Shared → Prop} (S : ZipSep2 z TI TO i1 i2 fp1 fp2) (D1 : Draws prog w A.in1 i1 fp1 n1 P1 St1) (D2 : Draws prog w A.in1 i2 fp2 n2 P2 St2)
    (hz : IsZipHeld s.heap z TI TO T f) (hT : s.heap.get? T = some oT) (hTI : IsTupOf2 s.heap TI (.ref i1) (.ref i2)) (st1 : St1 i s.heap) (st2 : St2 i s.heap) (hlt1 : i < n1) (hlt2 : i < n2)
    (hQ : ∀ x1 x2 h' tk, P1 i x1 → P2 i x2 → IsZipHeld h' z TI TO T true → St1 (i + 1) h' → St2 (i + 1) h' → IsTupOf2 h' s.heap.objs.size x1 x2 → h'.objs.size = s.heap.objs.size + 1 →
      (∀ c o, c ≠ z → c ≠ i1 → c ≠ i2 → s.heap.get? c = some o → h'.get? c = some o) → Q (some (.ref s.heap.objs.size)) { s with heap := h', toks := tk }) :
    wpAny (model prog w) A (pyNext (.ref z)) Q E s := by
  have hTy : s.TypeIs (.ref z) "zip" := ⟨_, hz, rfl⟩
  unfold pyNext
  exact wpAny_bind (wpAny_attempt (wpAny_callSpecial?_slot (name := Str.ofString "__next__") hTy F.slot_zip_next
    (wpAny_call_entry F.slot_zip_next hTy F.entry_zip_next
      (zh_next_item S D1 D2 hz hT hTI st1 st2 hlt1 hlt2 fun x1 x2 h' tk a1 a2 a3 a4 a5 a6 a7 a8 => wpAny_pure (hQ x1 x2 h' tk a1 a2 a3 a4 a5 a6 a7 a8)) (F.args_zip_next_1 _))))
theorem zh_end {Q : Option Value → Shared → Prop} (S : ZipSep2 z TI TO i1 i2 fp1 fp2) (D1 : Draws prog w A.in1 i1 fp1 n1 P1 St1) (D2 : Draws prog w A.in1 i2 fp2 n2 P2 St2)
    (hz : IsZipHeld s.heap z TI TO T f) (hT : s.heap.get? T = some oT) (hTI : IsTupOf2 s.heap TI (.ref i1) (.ref i2)) (st1 : St1 i s.heap) (st2 : St2 i s.heap) (hle1 : i ≤ n1) (hle2 : i ≤ n2) (hend : i = n1 ∨ i = n2)
    (hQ : ∀ h' tk, (∀ c o, c ≠ z → c ≠ i1 → c ≠ i2 → s.heap.get? c = some o → h'.get? c = some o) → Q none { s with heap := h', toks := tk }) : wpAny (model prog w) A (pyNext (.ref z)) Q E s := by
  have hTy : s.TypeIs (.ref z) "zip" := ⟨_, hz, rfl⟩
  unfold pyNext
  refine wpAny_bind (wpAny_attempt (wpAny_callSpecial?_slot (name := Str.ofString "__next__") hTy F.slot_zip_next
    (wpAny_call_entry F.slot_zip_next hTy F.entry_zip_next (zh_next_end S D1 D2 hz hT hTI st1 st2 hle1 hle2 hend fun h' tk e hk he => ?_) (F.args_zip_next_1 _))))
  obtain ⟨o, ho, hc⟩ := he
  refine wpAny_bind (wpAny_isInstance (T := "StopIteration") (b := true) ⟨o, ho, hc⟩ isSubtype_stop ?_)
  exact wpAny_pure (hQ _ _ hk)
end

section
variable {prog : Program} {w : World}
/-- what a zip of 2 reads, at the start -/
def ZOK (z TI TO i1 i2 : Addr) (H1 H2 : Heap → Prop) : Heap → Prop := fun h => IsZip h z TI TO .none ∧ IsTupOf2 h TI (.ref i1) (.ref i2) ∧ (∃ a b, IsTupOf2 h TO a b) ∧ H1 h ∧ H2 h
theorem PairArg.zipD {z TI TO i1 i2 : Addr} {fp1 fp2 : List Addr} {n1 n2 : Nat} {P1 P2 : Nat → Value → Prop} {St1 St2 : Nat → Heap → Prop} (S : ZipSep2 z TI TO i1 i2 fp1 fp2)
    (D1 : ∀ A : Around, A.handled = none → Draws prog w A i1 fp1 n1 P1 St1) (D2 : ∀ A : Around, A.handled = none → Draws prog w A i2 fp2 n2 P2 St2)
    (t1 : ∀ i h, St1 i h → ∀ b ∈ fp1, ∃ o, h.get? b = some o) (t2 : ∀ i h, St2 i h → ∀ b ∈ fp2, ∃ o, h.get? b = some o) :
    PairArg prog w "zip" z (z :: TI :: TO :: (fp1 ++ fp2)) [z, TO, i1, i2] (min n1 n2) (fun i k v => P1 i k ∧ P2 i v) (ZOK z TI TO i1 i2 (St1 0) (St2 0)) where
  type := fun s ok => ⟨_, ok.1, rfl⟩
  notDict := by decide
  keep := fun h h' ok hk => by
    obtain ⟨hz, hTI, ⟨a, b, hTO⟩, h1, h2⟩ := ok
    exact ⟨hk _ _ hz, hk _ _ hTI, ⟨a, b, hk _ _ hTO⟩, (D1 { units := 0, handled := none } rfl).frame _ _ _ h1 fun b _ o e => hk _ o e, (D2 { units := 0, handled := none } rfl).frame _ _ _ h2 fun b _ o e => hk _ o e⟩
  there := fun h ok b hb => by
    obtain ⟨hz, hTI, ⟨a, c, hTO⟩, h1, h2⟩ := ok
    simp only [List.mem_cons, List.mem_append] at hb
    rcases hb with rfl | rfl | rfl | hb | hb
    · exact ⟨_, hz⟩
    · exact ⟨_, hTI⟩
    · exact ⟨_, hTO⟩
    · exact t1 _ _ h1 b hb
    · exact t2 _ _ h2 b hb
  sub := fun b hb => by
    simp only [List.mem_cons, List.not_mem_nil, or_false] at hb
    rcases hb with rfl | rfl | rfl | rfl
    · exact List.mem_cons_self
    · exact List.mem_cons_of_mem _ (List.mem_cons_of_mem _ List.mem_cons_self)
    · exact List.mem_cons_of_mem _ (List.mem_cons_of_mem _ (List.mem_cons_of_mem _ (List.mem_append_left _ S.mem1)))
    · exact List.mem_cons_of_mem _ (List.mem_cons_of_mem _ (List.mem_cons_of_mem _ (List.mem_append_right _ S.mem2)))
  noKeys := fun A s Q E hA ok h => getAttrOr_miss_zip ok.1 rfl rfl rfl zip_no_keys (by decide +kernel) hA h
  iter := fun A s d Q E hA ok hd hdf h => by
    obtain ⟨hz, hTI, ⟨a, b, hTO⟩, h1, h2⟩ := ok
    simp only [List.mem_cons, List.mem_append, not_or] at hdf
    obtain ⟨dz, dTI, dTO, df1, df2⟩ := hdf
    have di1 : d ≠ i1 := fun e => df1 (e ▸ S.mem1)
    have di2 : d ≠ i2 := fun e => df2 (e ▸ S.mem2)
    have E1 := D1 A hA
    have E2 := D2 A hA
    have G1 := D1 A.in1 hA
    have G2 := D2 A.in1 hA
    refine wpAny_pyIter_zip hz (h z [z, TO, i1, i2] (fun i h => IsTupOf2 h TI (.ref i1) (.ref i2) ∧ St1 i h ∧ St2 i h ∧
      ((IsZip h z TI TO .none ∧ ∃ a b, IsTupOf2 h TO a b) ∨ ∃ T f oT, IsZipHeld h z TI TO T f ∧ h.get? T = some oT ∧ T ≠ z ∧ T ≠ i1 ∧ T ≠ i2 ∧ T ≠ d)) s.heap s.toks ?_
      ⟨hTI, h1, h2, .inl ⟨hz, a, b, hTO⟩⟩ (fun _ _ e => e) fun b hb => .inl hb)
    exact {
      off := fun hm => by
        simp only [List.mem_cons, List.not_mem_nil, or_false] at hm
        rcases hm with e | e | e | e
        · exact dz e
        · exact dTO e
        · exact di1 e
        · exact di2 e
      frame := fun i h₁ h₂ st hk => by
        obtain ⟨hTI, h1, h2, hz⟩ := st
        refine ⟨hk _ _ (Ne.symm dTI) hTI, E1.frame _ _ _ h1 fun b hb o e => hk _ o (fun q => df1 (q ▸ hb)) e, E2.frame _ _ _ h2 fun b hb o e => hk _ o (fun q => df2 (q ▸ hb)) e, ?_⟩
        rcases hz with ⟨hz, a, b, hTO⟩ | ⟨T, f, oT, hz, hT, r1, r2, r3, r4⟩
        · exact .inl ⟨hk _ _ (Ne.symm dz) hz, a, b, hk _ _ (Ne.symm dTO) hTO⟩
        · exact .inr ⟨T, f, oT, hk _ _ (Ne.symm dz) hz, hk _ _ r4 hT, r1, r2, r3, r4⟩
      item := fun i s₁ Q₁ E₁ hi st hds hQ => by
        obtain ⟨hTI, h1, h2, hz⟩ := st
        have hix : i < n1 := Nat.lt_of_lt_of_le hi (Nat.min_le_left ..)
        have hiy : i < n2 := Nat.lt_of_lt_of_le hi (Nat.min_le_right ..)
        have lt : ∀ {c o}, s₁.heap.get? c = some o → s₁.heap.objs.size ≠ c := fun e => Nat.ne_of_gt (Heap.lt_size e)
        have m1 : s₁.heap.objs.size ≠ i1 := let ⟨_, e⟩ := E1.live _ _ h1; lt e
        have m2 : s₁.heap.objs.size ≠ i2 := let ⟨_, e⟩ := E2.live _ _ h2; lt e
        rcases hz with ⟨hz, a, b, hTO⟩ | ⟨T, f, oT, hz, hT, r1, r2, r3, r4⟩
        · refine wpAny_pyNext_zipD2_item S G1 G2 hz hTI hTO h1 h2 hix hiy fun x1 x2 h' tk p1 p2 a1 a2 a3 a4 a5 a6 hk => ?_
          exact hQ s₁.heap.objs.size _ _ h' tk ⟨p1, p2⟩ (.inl ⟨_, a5, rfl, _, rfl⟩)
            ⟨hk _ _ S.TIz S.TITO S.TIi1 S.TIi2 hTI, a3, a4, .inr ⟨s₁.heap.objs.size, false, _, a1, a5, lt hz, m1, m2, Nat.ne_of_gt hds⟩⟩
            fun c o hc e => hk c o (fun x => hc (by simp [x])) (fun x => hc (by simp [x])) (fun x => hc (by simp [x])) (fun x => hc (by simp [x])) e
        · refine zh_item S G1 G2 hz hT hTI h1 h2 hix hiy fun x1 x2 h' tk p1 p2 a1 a3 a4 a5 a6 hk => ?_
          exact hQ s₁.heap.objs.size _ _ h' tk ⟨p1, p2⟩ (.inl ⟨_, a5, rfl, _, rfl⟩)
            ⟨hk _ _ S.TIz S.TIi1 S.TIi2 hTI, a3, a4, .inr ⟨T, true, oT, a1, hk _ _ r1 r2 r3 hT, r1, r2, r3, r4⟩⟩
            fun c o hc e => hk c o (fun x => hc (by simp [x])) (fun x => hc (by simp [x])) (fun x => hc (by simp [x])) e
      done := fun s₁ Q₁ E₁ st hQ => by
        obtain ⟨hTI, h1, h2, hz⟩ := st
        have hend : min n1 n2 = n1 ∨ min n1 n2 = n2 := by omega
        rcases hz with ⟨hz, a, b, hTO⟩ | ⟨T, f, oT, hz, hT, r1, r2, r3, r4⟩
        · exact wpAny_pyNext_zipD2_end S G1 G2 hz hTI hTO h1 h2 (by omega) (by omega) hend fun h' tk hk => hQ h' tk fun c o hc e => hk c o (fun x => hc (by simp [x])) (fun x => hc (by simp [x])) (fun x => hc (by simp [x])) (fun x => hc (by simp [x])) e
        · exact zh_end S G1 G2 hz hT hTI h1 h2 (by omega) (by omega) hend fun h' tk hk => hQ h' tk fun c o hc e => hk c o (fun x => hc (by simp [x])) (fun x => hc (by simp [x])) (fun x => hc (by simp [x])) e }
end
end FM
/-! dict(zip(list, tuple)), over the layer. -/
namespace FM
open PySem PySem.Spec PyProof.Rows L2 Evl
open Sem (wp)
theorem ne_plus {b N : Nat} (h : b < N) (k : Nat) : b ≠ N + k := Nat.ne_of_lt (Nat.lt_of_lt_of_le h (Nat.le_add_right N k))
section
variable {X : Cx}
def rNdZip (P : Program) (w : World) (K : PySem.W.Frag) : List V → Hp → VK → Prop := fun vs H Q => ∃ (a t : Addr) (l : List Ent), vs = [.ref a, .ref t] ∧ SqL K H a (l.map fun e => V.ref e.2.1) ∧ SqT K H t (l.map fun e => e.2.2) ∧ Dk K H l ∧ (l.map (·.1)).Nodup ∧
  ∀ p, H p = none → Q (.ref p) (upd H p (NDO P w p l))
theorem nd_zip (hc : X.calm = true) (hu : X.A.units + 20 < cLine) {pins : List (Addr × Obj)} {σ : L2.St} {H : Hp} {s : Shared} {us : List Value} {vs : List V} {Q : VK} (I : Inv X pins σ H s) (r : Vals vs us) (h : rNdZip X.prog X.w X.K vs H Q) :
    wpAny (model X.prog X.w) X.A (call (.type "zip") us) (fun z s1 => wpAny (model X.prog X.w) X.A (call (.type "dict") [z]) (EP X pins σ Q) X.xe s1) X.xe s := by
  obtain ⟨a, t, l, rfl, hl, ht, hk, hn, q⟩ := h
  obtain ⟨u1, u2, rfl, r1, r2⟩ := r.two
  obtain rfl : u1 = .ref a := r1
  obtain rfl : u2 = .ref t := r2
  obtain ⟨its, rv, hL, z⟩ := I.list hl
  obtain ⟨jts, rw', hT, _⟩ := I.tuple ht
  have hlen : its.length = l.length := by rw [← rv.length, List.length_map]
  have hlen2 : jts.length = l.length := by rw [← rw'.length, List.length_map]
  have hh : X.A.handled = none := I.ok.hd hc
  have hL' : s.heap.IsList a its.toArray := by
    obtain ⟨o, n, ho, h1, h2, h3⟩ := hL
    exact ⟨o, ho, h1, n, h3⟩
  have hT' : s.heap.IsTuple t jts.toArray := by
    obtain ⟨o, ho, h1, n, h2⟩ := hT
    exact ⟨o, ho, h1, n, h2⟩
  have la : a < s.heap.objs.size := let ⟨o, ho, _⟩ := hL'; Heap.lt_size ho
  have lt : t < s.heap.objs.size := let ⟨o, ho, _⟩ := hT'; Heap.lt_size ho
  refine zip_begins2 (begins_list a its.toArray) (begins_tuple t jts.toArray) hL' hT' fun h' gz gT gO g1 g2 hsz kk => ?_
  generalize hN : s.heap.objs.size = N at *
  have S := zip_sep2 (N := N) (fp1 := [a]) (fp2 := [t]) (fun b hb => by rw [List.mem_singleton.mp hb]; exact la) (fun b hb => by rw [List.mem_singleton.mp hb]; exact lt)
  have kept : ∀ {b : Addr} {A : Array Value}, s.heap.IsList b A → h'.IsList b A := fun x => x.at fun o e => kk _ o e
  have kept2 : ∀ {b : Addr} {A : Array Value}, s.heap.IsTuple b A → h'.IsTuple b A := fun x => x.at fun o e => kk _ o e
  obtain ⟨ys, hr, hy⟩ := er_exists l (fun i => jts.getD i .none) fun i e he => by
    have e1 : (l.map fun e => e.2.2)[i]? = some e.2.2 := by rw [List.getElem?_map, he]; rfl
    obtain ⟨w', hw, rw''⟩ := rw'.get e1
    rw [List.getD_eq_getElem?_getD, hw]
    exact rw''
  have hyl : ys.length = l.length := (Paired.length hr).symm
  have hnod : (ys.map (·.1)).Nodup := by rw [er_nodup hr]; exact hn
  have P := PairArg.zipD (prog := X.prog) (w := X.w) S (fun A hA => Draws.list (A := A) hA N a (Nat.ne_of_lt la) its.toArray) (fun A hA => Draws.tuple (A := A) hA (N + 1) t (Nat.ne_of_lt (Nat.lt_succ_of_lt lt)) jts.toArray)
    (fun i h st b hb => by
      obtain ⟨⟨o1, e1, _⟩, ⟨o2, e2, _⟩⟩ := st
      simp only [List.mem_cons, List.not_mem_nil, or_false] at hb
      rcases hb with rfl | rfl
      · exact ⟨_, e1⟩
      · exact ⟨_, e2⟩)
    (fun i h st b hb => by
      obtain ⟨⟨o1, e1, _⟩, ⟨o2, e2, _⟩⟩ := st
      simp only [List.mem_cons, List.not_mem_nil, or_false] at hb
      rcases hb with rfl | rfl
      · exact ⟨_, e1⟩
      · exact ⟨_, e2⟩)
  have hmin : min its.toArray.size jts.toArray.size = l.length := by simp [hlen, hlen2]
  rw [hmin] at P
  refine call_dict_pairsH (s := { s with heap := h' }) (knd := nestedKind X.prog X.w) (ps := ys) P hh (by show X.A.units + 1 + 1 + 8 < cLine; omega) ⟨gz, gT, ⟨_, _, gO⟩, ⟨⟨_, g1, rfl, rfl⟩, kept hL'⟩, ⟨_, g2, rfl, rfl⟩, kept2 hT'⟩ ⟨hyl, fun i k v hi => ?_⟩ (fun h2 k y hy' => ?_) (by rw [← hlen, ← rv.length]; exact z) fun h2 tk dd' k => ?_
  · obtain ⟨h1, h2⟩ := hi
    have h1' : its[i]? = some k := by simpa using h1
    have h2' : jts[i]? = some v := by simpa using h2
    have hi : i < l.length := by rw [← hlen]; exact (List.getElem?_eq_some_iff.mp h1').1
    obtain ⟨e, he⟩ : ∃ e, l[i]? = some e := ⟨l[i], List.getElem?_eq_getElem hi⟩
    have e1 : (l.map fun e => V.ref e.2.1)[i]? = some (.ref e.2.1) := by rw [List.getElem?_map, he]; rfl
    obtain ⟨w', hw, rw''⟩ := rv.get e1
    rw [h1'] at hw
    cases hw
    refine ⟨e.1, e.2.1, ?_, rw''⟩
    rw [hy i, he, List.getD_eq_getElem?_getD, h2']
    rfl
  · obtain ⟨e, he, e1, e2, _⟩ := hr.mem y hy'
    rw [← e1, ← e2]
    refine nd_key (I.kept (t' := s.toks) (h' := h2) fun b u q => k b u ?_ ?_ (kk b u q)) (hk e he).1 (hk e he).2
    · show b ≠ h'.objs.size
      have := Heap.lt_size q
      rw [hN] at this
      rw [hsz]
      exact ne_plus this 5
    · have := Heap.lt_size q
      rw [hN] at this
      simp only [List.mem_cons, List.not_mem_nil, or_false, not_or]
      exact ⟨ne_plus this 4, ne_plus this 3, ne_plus this 0, ne_plus this 1⟩
  · rw [storedAllH_nil_of_nodup ys hnod] at dd'
    have J := nd_fresh (h' := h2) (t' := tk) (p := h'.objs.size) I (fun b u e => k b u (by
      have := Heap.lt_size e
      rw [hN] at this
      simp only [List.mem_cons, List.not_mem_nil, or_false, not_or]
      exact ⟨ne_plus this 4, ne_plus this 3, ne_plus this 0, ne_plus this 1⟩) (kk b u e)) (by rw [hN, hsz]; omega) (by rw [← hlen, ← rv.length]; exact z) hr dd'
    exact ⟨.ref h'.objs.size, _, J, rfl, q _ (I.hok.fresh (by rw [hN, hsz]; omega))⟩
variable {e1 e2 : Expr} {ta : TA} {p p2 pos pos2 : Pos} {xd xz : Str}
/-- dict(zip(a, b)) -/
theorem pe_ndZip (hc : X.calm = true) (hu : X.A.units + 20 < cLine) (hgd : Gl X xd) (hmd : X.mg xd = none) (hvd : bootBuiltins xd = some (.type "dict")) (hgz : Gl X xz) (hmz : X.mg xz = none) (hvz : bootBuiltins xz = some (.type "zip")) (ha : PA X [e1, e2] ta)
    (hn1 : xd ≠ "__name__" := by decide) (hb1 : (xd == ("__debug__" : Str)) = false := by decide) (hn2 : xz ≠ "__name__" := by decide) (hb2 : (xz == ("__debug__" : Str)) = false := by decide)
    (he : starEach [e1, e2] X.env = (false, eval e1 X.env) :: starEach [e2] X.env := by rfl) (hpl : (backTo pos2 (starEach [e2] X.env)).any (·.1) = false := by rfl) :
    PE X (.Call (.Name xd p) [.Call (.Name xz p2) [e1, e2] [] pos2] [] pos) (tCB (rNdZip X.prog X.w X.K) ta) := by
  refine ⟨fun pins s σ H Q I h => ?_⟩
  refine wpAny_Call_Name_kw (ld_blt I hgd hmd hvd ?_ hn1 hb1)
  refine PyProof.Rows.callWith_type1 ?_ (by rfl) (by rfl)
  show wpAny _ _ (spliced ((false, eval (.Call (.Name xz p2) [e1, e2] [] pos2) X.env) :: backTo pos (starEach [] X.env))) _ _ _
  refine Calls.spliced_cons ?_
  refine wpAny_Call_Name_kw (ld_blt I hgz hmz hvz ?_ hn2 hb2)
  refine PyProof.Rows.callWith_type1 (thn (ha.run pos2 pins s σ H _ I h) fun us s1 ⟨vs, H1, I1, r1, q1⟩ => ?_) he hpl
  exact thn (nd_zip hc hu I1 r1 q1) fun z s2 hz => Calls.spliced_nil hz
end
end FM
/-! d == e, d != e of dicts with nested keys and nested values that are the same. -/
namespace FM
open PySem PySem.Spec PyProof.Rows L2 Evl
open Sem (wp)
section
variable {prog : Program} {w : World} {K : Type} [DecidableEq K] {knd : HeapKind prog w K} {A : Around} {E : Value → Shared → Prop} {s : Shared}
theorem nq_samePairs {nm : String} {a b : Addr} {xa xb : List (K × Addr × Value)} {Q : Bool → Shared → Prop} (hu : knd.room A) (ha : (a == sysModules) = false) (hb : (b == sysModules) = false)
    (da : s.heap.DictOfH knd a xa) (db : s.heap.DictOfH knd b xb) (hl : xa.length = xb.length) (hits : ∀ x ∈ xa, ∃ p, atKey xb x.1 = some p ∧ SeqAt.EqAt A s x.2.2 p.2 true) (h : Q true s) :
    wpAny (model prog w) A (Builtin.Dict.samePairs nm a b) Q E s := by
  obtain ⟨oa, es, ep, hoa, _, hda, hka, hia, hna⟩ := da
  obtain ⟨ob, es', ep', hob, _, hdb, hkb, hib, hnb⟩ := db
  have hla : es.size = xa.length := size_of_entries hka
  have hlb : es'.size = xb.length := size_of_entries hkb
  unfold Builtin.Dict.samePairs Builtin.Dict.showsAll
  rw [if_neg (show ¬ (a == sysModules) = true by rw [ha]; exact Bool.false_ne_true), if_neg (show ¬ (b == sysModules) = true by rw [hb]; exact Bool.false_ne_true)]
  refine wpAny_bind (wpAny_pure (wpAny_bind (wpAny_pure ?_)))
  refine wpAny_bind (wpAny_dictEntries hoa hda ?_)
  dsimp only
  refine wpAny_bind (wpAny_dictEntries hob hdb ?_)
  have hsz : es.size = es'.size := by rw [hla, hlb, hl]
  rw [if_neg (by rw [hsz]; simp)]
  refine wpAny_bind (wpAny_dictEpoch hoa hda ?_)
  refine wpAny_bind ?_
  rw [Std.Legacy.Range.forIn_eq_forIn_range']
  simp only [Std.Legacy.Range.size, Nat.sub_zero, Nat.add_sub_cancel, Nat.div_one]
  refine wpAny_forIn_list _
    (fun rest q s' => s' = s ∧ q = (none, ()) ∧ ∃ i, rest = List.range' i (es.size - i) ∧ i ≤ es.size)
    _ ?_ ?_ _ _ ⟨rfl, rfl, 0, by simp, Nat.zero_le _⟩
  · rintro x rest q s' ⟨rfl, rfl, i, hr, hi⟩
    have hlt : i < es.size := by
      rcases Nat.lt_or_ge i es.size with h | h
      · exact h
      · rw [Nat.sub_eq_zero_of_le h] at hr; simp at hr
    obtain ⟨rfl, hrest⟩ : x = i ∧ rest = List.range' (i + 1) (es.size - (i + 1)) := by
      have e : es.size - i = (es.size - (i + 1)) + 1 := by omega
      rw [e, List.range'_succ] at hr
      injection hr with h1 h2
      exact ⟨h1, h2⟩
    refine wpAny_bind (wpAny_dictEntries hoa hda ?_)
    have hlt' : x < xa.length := by rw [← hla]; exact hlt
    obtain ⟨⟨k, kb, v⟩, hkv⟩ : ∃ p, xa[x]? = some p := ⟨xa[x], List.getElem?_eq_getElem hlt'⟩
    have hmem : (k, kb, v) ∈ xa := List.mem_of_getElem? hkv
    rw [entry_at hka x, hkv]
    show wpAny _ _ (holding [.ref kb, v] _ >>= _) _ _ _
    obtain ⟨p, hp, he⟩ := hits _ hmem
    refine wpAny_bind (wpAny_holding (wpAny_bind (wpAny_dictFind_heap (k := k) hu (hia _ hmem) hob hdb hkb hib hnb (fun hno => ?_) fun j p' hj => ?_)))
    · rw [atKey_none_of_get hno] at hp
      cases hp
    · rw [atKey_of_get hnb hj] at hp
      cases hp
      refine wpAny_bind (wpAny_dictEntries hob hdb ?_)
      rw [entry_at hkb j, hj]
      refine wpAny_holding (he prog w _ _ ?_)
      show wpAny _ _ (if (!true) = true then _ else _) _ _ _
      rw [if_neg (by decide)]
      refine wpAny_bind (wpAny_dictEpoch hoa hda ?_)
      rw [if_neg (by simp)]
      exact wpAny_pure ⟨rfl, rfl, x + 1, hrest, hlt⟩
  · rintro q s' ⟨rfl, rfl, i, hr, hi⟩
    exact wpAny_pure h
theorem nq_eq {a b : Addr} {xa xb : List (K × Addr × Value)} {Q : Value → Shared → Prop} (hu : A.units < cLine) (hr : knd.room A.in1) (ha : (a == sysModules) = false) (hb : (b == sysModules) = false)
    (da : s.heap.DictOfH knd a xa) (db : s.heap.DictOfH knd b xb) (hl : xa.length = xb.length) (hits : ∀ x ∈ xa, ∃ p, atKey xb x.1 = some p ∧ SeqAt.EqAt A.in1 s x.2.2 p.2 true) (h : Q (.bool true) s) :
    wpAny (model prog w) A (compareOp .Eq (.ref a) (.ref b)) Q E s := by
  refine wpAny_richCompare_same_room (op := .Eq) da.typeIs db.typeIs PySem.F.slot_dict_eq (wpAny_call_entry PySem.F.slot_dict_eq da.typeIs PySem.F.entry_dict_eq ?_ (PySem.F.args_dict_eq_2 _ _)) hu
  show wpAny _ _ (Builtin.Dict.dictSlotArgs "__eq__" ⟨[.ref a, .ref b], []⟩ >>= _) _ _ s
  refine wpAny_bind ?_
  unfold Builtin.Dict.dictSlotArgs
  refine wpAny_bind (wpAny_notOrdered_dict da.typeIs ?_)
  show wpAny _ _ (pure (Value.ref a, Value.ref b)) _ _ s
  refine wpAny_pure ?_
  refine wpAny_bind (wpAny_isInstance (T := "dict") db.typeIs PySem.F.sub_dict_dict ?_)
  simp only [Bool.not_true, Bool.false_eq_true, if_false]
  refine wpAny_bind (wpAny_pure (wpAny_bind (wpAny_pure ?_)))
  refine wpAny_bind (nq_samePairs hr ha hb da db hl hits ?_)
  refine wpAny_pure ⟨_, rfl, ?_, ?_⟩
  · exact fun x => nomatch x
  · simpa using h
theorem nq_ne {a b : Addr} {xa xb : List (K × Addr × Value)} {Q : Value → Shared → Prop} (hu : A.units < cLine) (hr : knd.room A.in1) (ha : (a == sysModules) = false) (hb : (b == sysModules) = false)
    (da : s.heap.DictOfH knd a xa) (db : s.heap.DictOfH knd b xb) (hl : xa.length = xb.length) (hits : ∀ x ∈ xa, ∃ p, atKey xb x.1 = some p ∧ SeqAt.EqAt A.in1 s x.2.2 p.2 true) (h : Q (.bool false) s) :
    wpAny (model prog w) A (compareOp .NotEq (.ref a) (.ref b)) Q E s := by
  refine wpAny_richCompare_same_room (op := .NotEq) da.typeIs db.typeIs PySem.F.slot_dict_ne (wpAny_call_entry PySem.F.slot_dict_ne da.typeIs PySem.F.entry_dict_ne ?_ (PySem.F.args_dict_ne_2 _ _)) hu
  show wpAny _ _ (Builtin.Dict.dictSlotArgs "__ne__" ⟨[.ref a, .ref b], []⟩ >>= _) _ _ s
  refine wpAny_bind ?_
  unfold Builtin.Dict.dictSlotArgs
  refine wpAny_bind (wpAny_notOrdered_dict da.typeIs ?_)
  show wpAny _ _ (pure (Value.ref a, Value.ref b)) _ _ s
  refine wpAny_pure ?_
  refine wpAny_bind (wpAny_isInstance (T := "dict") db.typeIs PySem.F.sub_dict_dict ?_)
  simp only [Bool.not_true, Bool.false_eq_true, if_false]
  refine wpAny_bind (wpAny_pure (wpAny_bind (wpAny_pure ?_)))
  refine wpAny_bind (nq_samePairs hr ha hb da db hl hits ?_)
  refine wpAny_pure ⟨_, rfl, ?_, ?_⟩
  · exact fun x => nomatch x
  · simpa using h
end
section
variable {X : Cx}
/-- the two dicts hold the same -/
def SameD (P : Program) (w : World) (K : PySem.W.Frag) (x y : V) (H : Hp) : Prop := ∃ a b ka kb, x = .ref a ∧ y = .ref b ∧ Dr P w K H a ka ∧ Dr P w K H b kb ∧ ka.length = kb.length ∧
  ∀ k v, (k, v) ∈ ka → ∃ u d, valV kb k = some u ∧ Tv K H v d ∧ Tv K H u d ∧ d.depth ≤ 8
theorem nd_hits {pins : List (Addr × Obj)} {σ : L2.St} {H : Hp} {s : Shared} (I : Inv X pins σ H s) {la lb : List Ent} {xa xb : List (NestedKey × Addr × Value)} (ra : ER la xa) (rb : ER lb xb) {A : Around} (hu : A.units + 8 < cLine)
    (h : ∀ k v, (k, v) ∈ prs la → ∃ u d, valV (prs lb) k = some u ∧ Tv X.K H v d ∧ Tv X.K H u d ∧ d.depth ≤ 8) : ∀ x ∈ xa, ∃ p, atKey xb x.1 = some p ∧ SeqAt.EqAt A s x.2.2 p.2 true := by
  intro x hx
  obtain ⟨e, he, e1, e2, e3⟩ := ra.mem x hx
  obtain ⟨u, d, hv, t1, t2, hd⟩ := h e.1 e.2.2 (List.mem_map.mpr ⟨e, he, rfl⟩)
  rw [valV_prs] at hv
  have rv := rb.val e.1
  rw [hv] at rv
  obtain ⟨w', hw, rw'⟩ := RelO.some_of (v := u) (o := (atKey xb e.1).map (·.2)) rv
  obtain ⟨p, hp, hp2⟩ := Option.map_eq_some_iff.mp hw
  refine ⟨p, by rw [← e1]; exact hp, ?_⟩
  have := eqAt_key d d A s x.2.2 p.2 (Tv.is I d _ _ t1 e3) (Tv.is I d _ _ t2 (by rw [hp2]; exact rw')) (by rw [Nat.min_self]; omega)
  rw [← NestedKey.decide_eq, decide_eq_true rfl] at this
  exact this
theorem op_ndEq (hu : X.A.units + 20 < cLine) : OpR X (compareOp .Eq) (fun x y H Q => SameD X.prog X.w X.K x y H ∧ Q (.bl true) H) := by
  intro pins s σ H x y v u Q I rx ry h
  obtain ⟨⟨a, b, ka, kb, rfl, rfl, ⟨la, ha, hka, rfl⟩, ⟨lb, hb, hkb, rfl⟩, hl, hh⟩, q⟩ := h
  cases rx
  cases ry
  obtain ⟨za, ma, xa, ra, da⟩ := nd_raw I ha hka
  obtain ⟨zb, mb, xb, rb, db⟩ := nd_raw I hb hkb
  refine nq_eq (knd := nestedKind X.prog X.w) (by omega) (by show X.A.units + 1 + 8 < cLine; omega) ma mb da db ?_ (nd_hits I ra rb (by show X.A.units + 1 + 8 < cLine; omega) hh) ⟨.bl true, H, I, rfl, q⟩
  rw [← Paired.length ra, ← Paired.length rb]
  simpa [prs] using hl
theorem op_ndNe (hu : X.A.units + 20 < cLine) : OpR X (compareOp .NotEq) (fun x y H Q => SameD X.prog X.w X.K x y H ∧ Q (.bl false) H) := by
  intro pins s σ H x y v u Q I rx ry h
  obtain ⟨⟨a, b, ka, kb, rfl, rfl, ⟨la, ha, hka, rfl⟩, ⟨lb, hb, hkb, rfl⟩, hl, hh⟩, q⟩ := h
  cases rx
  cases ry
  obtain ⟨za, ma, xa, ra, da⟩ := nd_raw I ha hka
  obtain ⟨zb, mb, xb, rb, db⟩ := nd_raw I hb hkb
  refine nq_ne (knd := nestedKind X.prog X.w) (by omega) (by show X.A.units + 1 + 8 < cLine; omega) ma mb da db ?_ (nd_hits I ra rb (by show X.A.units + 1 + 8 < cLine; omega) hh) ⟨.bl false, H, I, rfl, q⟩
  rw [← Paired.length ra, ← Paired.length rb]
  simpa [prs] using hl
end
end FM
/-! What a reading gives, told by a predicate (EvP); data (EvD); comparisons of nested data; lists and dicts made by comprehensions; promises. -/
namespace FM
open PySem PySem.Spec PyProof.Rows L2 Evl

abbrev VP := V → Hp → Prop
def EvP (te : TE) (σ : L2.St) (H : Hp) (P : VP) : Prop := ∀ H1, Ex H H1 → ∀ Q : VK, (∀ v H2, Ex H1 H2 → P v H2 → Q v H2) → te σ H1 Q
def EaP (ta : TA) (σ : L2.St) (H : Hp) (P : List V → Hp → Prop) : Prop := ∀ H1, Ex H H1 → ∀ Q : List V → Hp → Prop, (∀ v H2, Ex H1 H2 → P v H2 → Q v H2) → ta σ H1 Q
/-- it bears the data d -/
def IsD (K : PySem.W.Frag) (d : NestedKey) : VP := fun v H => Tv K H v d
def IsV (x : V) : VP := fun v _ => v = x
abbrev EvD (K : PySem.W.Frag) (te : TE) (σ : L2.St) (H : Hp) (d : NestedKey) : Prop := EvP te σ H (IsD K d)
abbrev EaD (K : PySem.W.Frag) (ta : TA) (σ : L2.St) (H : Hp) (ds : List NestedKey) : Prop := EaP ta σ H (fun vs H => TvA K H vs ds)
/-- stays -/
def Sty (P : VP) : Prop := ∀ v H H', Ex H H' → P v H → P v H'
/-- stays wherever the tuples stay -/
def StK (P : VP) : Prop := ∀ v H H', Kp H H' → P v H → P v H'
theorem StK.sty {P : VP} (h : StK P) : Sty P := fun v H H' e p => h v H H' (.ex e) p
theorem stk_D {K : PySem.W.Frag} {d : NestedKey} : StK (IsD K d) := fun _ _ _ e h => Tv.kp e h
theorem stk_V {x : V} : StK (IsV x) := fun _ _ _ _ h => h
theorem sty_D {K : PySem.W.Frag} {d : NestedKey} : Sty (IsD K d) := fun _ _ _ e h => Tv.ex h e
theorem sty_V {x : V} : Sty (IsV x) := fun _ _ _ _ h => h

section
variable {K : PySem.W.Frag} {σ : L2.St} {H H' : Hp} {ta tb te tx : TE} {x y z v : V} {r : R2} {P P' R : VP} {d e : NestedKey}
theorem EvP.mono (e : Ex H H') (h : EvP te σ H P) : EvP te σ H' P := fun H1 a Q q => h H1 (e.trans a) Q q
theorem EaP.mono {ta : TA} {P : List V → Hp → Prop} (e : Ex H H') (h : EaP ta σ H P) : EaP ta σ H' P := fun H1 a Q q => h H1 (e.trans a) Q q
theorem EvP.imp (h : EvP te σ H P) (k : ∀ v H2, Ex H H2 → P v H2 → P' v H2) : EvP te σ H P' := fun H1 a Q q => h H1 a Q fun v H2 e p => q v H2 e (k v H2 (a.trans e) p)
theorem EvP.ev (h : EvP te σ H (IsV x)) : Ev te σ H x := fun H1 a Q q => h H1 a Q fun v H2 e p => by
  cases p
  exact q H2 e
theorem EvP.of (h : Ev te σ H x) (p : ∀ H2, Ex H H2 → P x H2) : EvP te σ H P := fun H1 a Q q => h H1 a Q fun H2 e => q x H2 e (p H2 (a.trans e))
theorem evp_v (h : Ev te σ H x) : EvP te σ H (IsV x) := .of h fun _ _ => rfl
theorem evd_i {i : Int} (h : Ev te σ H (.int i)) : EvD K te σ H (.num i) := .of h fun _ _ => .int i
theorem EvP.int {i : Int} (h : EvD K te σ H (.num i)) : Ev te σ H (.int i) := fun H1 a Q q => h H1 a Q fun v H2 e p => by
  cases Tv.num p
  exact q H2 e
theorem evp_var {i : Nat} (h : σ[i]? = some (some v)) (p : ∀ H2, Ex H H2 → P v H2) : EvP (tVar i) σ H P := .of (ev_var h) p
theorem evd_var {i : Nat} (h : σ[i]? = some (some v)) (p : Tv K H v d) : EvD K (tVar i) σ H d := .of (ev_var h) fun _ e => p.ex e
theorem eap_nil : EaP tNil σ H (fun vs _ => vs = []) := fun H1 _ _ q => q [] H1 (Ex.refl H1) rfl
theorem ead_nil : EaD K tNil σ H [] := fun H1 _ _ q => q [] H1 (Ex.refl H1) .nil
theorem eap_cons {tr : TA} {R : List V → Hp → Prop} (h : EvP te σ H P) (st : Sty P) (hr : EaP tr σ H R) : EaP (tCons te tr) σ H (fun vs H => ∃ v ws, vs = v :: ws ∧ P v H ∧ R ws H) := fun H1 a Q q =>
  h H1 a _ fun v H2 e2 p => hr H2 (a.trans e2) _ fun ws H3 e3 pr => q (v :: ws) H3 (e2.trans e3) ⟨v, ws, rfl, st v H2 H3 e3 p, pr⟩
theorem ead_cons {tr : TA} {ds : List NestedKey} (h : EvD K te σ H d) (hr : EaD K tr σ H ds) : EaD K (tCons te tr) σ H (d :: ds) := fun H1 a Q q =>
  h H1 a _ fun v H2 e2 p => hr H2 (a.trans e2) _ fun ws H3 e3 pr => q (v :: ws) H3 (e2.trans e3) (.cons (p.ex e3) pr)
theorem EaP.imp {ta : TA} {P P' : List V → Hp → Prop} (h : EaP ta σ H P) (k : ∀ v H2, Ex H H2 → P v H2 → P' v H2) : EaP ta σ H P' := fun H1 a Q q => h H1 a Q fun v H2 e p => q v H2 e (k v H2 (a.trans e) p)
/-- operations -/
theorem evp_op (ha : EvP ta σ H P) (st : Sty P) (hb : EvP tb σ H R) (hr : ∀ x y H1, Ex H H1 → P x H1 → R y H1 → ∀ Q : VK, (∀ v H2, Ex H1 H2 → P' v H2 → Q v H2) → r x y H1 Q) : EvP (tOp r ta tb) σ H P' := fun H1 a Q q =>
  ha H1 a _ fun x H2 e2 px => hb H2 (a.trans e2) _ fun y H3 e3 py => hr x y H3 ((a.trans e2).trans e3) (st x H2 H3 e3 px) py Q fun v H4 e4 p => q v H4 ((e2.trans e3).trans e4) p
theorem evp_if {t : TT} {b : Bool} (h : EvT t σ H b) (h1 : b = true → EvP ta σ H P) (h2 : b = false → EvP tb σ H P) : EvP (tIf t ta tb) σ H P := fun H1 a Q q => h H1 a _ fun H2 e2 => by
  cases b with
  | true => exact h1 rfl H2 (a.trans e2) Q fun v H3 e3 p => q v H3 (e2.trans e3) p
  | false => exact h2 rfl H2 (a.trans e2) Q fun v H3 e3 p => q v H3 (e2.trans e3) p
theorem evp_cb {r : List V → Hp → VK → Prop} {ta : TA} {R : List V → Hp → Prop} (h : EaP ta σ H R) (hr : ∀ vs H1, Ex H H1 → R vs H1 → ∀ Q : VK, (∀ v H2, Ex H1 H2 → P v H2 → Q v H2) → r vs H1 Q) : EvP (tCB r ta) σ H P := fun H1 a Q q =>
  h H1 a _ fun vs H2 e2 p => hr vs H2 (a.trans e2) p Q fun v H3 e3 p' => q v H3 (e2.trans e3) p'
/-- t[i] of data -/
theorem evd_ix {ds : List NestedKey} {i : Nat} (ha : EvD K ta σ H (.tup ds)) (hb : Ev tb σ H (.int (i : Int))) (hg : ds[i]? = some d) : EvD K (tOp (rIxT K) ta tb) σ H d :=
  evp_op ha sty_D (evp_v hb) fun x y H1 _ px py Q q => by
    cases py
    obtain ⟨a, xs, rfl, hs, hd⟩ := Tv.tupI px
    obtain ⟨v, hv, tv⟩ := hd.get' hg
    refine ⟨a, xs, (i : Int), v, rfl, rfl, hs, ?_, q v H1 (Ex.refl H1) tv⟩
    exact atI_nat hv
/-- a written tuple -/
theorem evd_tup {ta : TA} {ds : List NestedKey} (h : EaD K ta σ H ds) (hl : ds.length ≤ 100000) : EvD K (tTup ta) σ H (.tup ds) := fun H1 a Q q =>
  h H1 a _ fun vs H2 e2 p => ⟨by rw [p.length]; exact sz_of hl, fun t ht => q _ _ (e2.trans (Ex.new ht)) (.tup (st_of upd_same) (TvA.ex p (Ex.new ht)))⟩
/-- t + u -/
theorem evd_cat {ds es : List NestedKey} (ha : EvD K ta σ H (.tup ds)) (hb : EvD K tb σ H (.tup es)) (hl : ds.length + es.length ≤ 100000) : EvD K (tOp (rCatA K) ta tb) σ H (.tup (ds ++ es)) :=
  evp_op ha sty_D hb fun x y H1 _ px py Q q => by
    obtain ⟨a, xs, rfl, hs, hd⟩ := Tv.tupI px
    obtain ⟨b, ys, rfl, hs', hd'⟩ := Tv.tupI py
    have l1 := hd.length
    have l2 := hd'.length
    refine ⟨a, b, xs, ys, rfl, rfl, hs, hs', sz_of (by omega), fun e => ?_, fun _ e => ?_, fun _ _ p hp => ?_⟩
    · subst e
      have : ds = [] := List.length_eq_zero_iff.mp l1.symm
      subst this
      exact q _ _ (Ex.refl H1) py
    · subst e
      have : es = [] := List.length_eq_zero_iff.mp l2.symm
      subst this
      rw [List.append_nil] at q
      exact q _ _ (Ex.refl H1) px
    · exact q _ _ (Ex.new hp) (.tup (st_of upd_same) (TvA.append (hd.ex (Ex.new hp)) (hd'.ex (Ex.new hp))))
end

/-! ### == and != of data -/
section
variable {X : Cx}
def rEqT (K : PySem.W.Frag) (neg : Bool) : R2 := fun x y H Q => ∃ d e, Tv K H x d ∧ Tv K H y e ∧ d.depth ≤ 64 ∧ e.depth ≤ 64 ∧ Q (.bl (if neg then !decide (d = e) else decide (d = e))) H
theorem op_eqT (hu : X.A.units + 64 < cLine) : OpR X (compareOp .Eq) (rEqT X.K false) := by
  intro pins s σ H x y v u Q I rx ry h
  obtain ⟨d, e, hd, he, z1, z2, q⟩ := h
  refine op_eqD hu pins s σ H x y v u Q I rx ry ⟨d.data, e.data, hd.dp, he.dp, ?_, ?_, ?_⟩
  · unfold SeqAt.shaped
    rw [hd.lay, data_depth, decide_eq_true z1]
    rfl
  · unfold SeqAt.shaped
    rw [he.lay, data_depth, decide_eq_true z2]
    rfl
  · rw [Tv.eqv hd he, ← NestedKey.decide_eq]
    exact q
theorem op_neT (hu : X.A.units + 64 < cLine) : OpR X (compareOp .NotEq) (rEqT X.K true) := by
  intro pins s σ H x y v u Q I rx ry h
  obtain ⟨d, e, hd, he, z1, z2, q⟩ := h
  refine op_neD hu pins s σ H x y v u Q I rx ry ⟨d.data, e.data, hd.dp, he.dp, ?_, ?_, ?_⟩
  · unfold SeqAt.shaped
    rw [hd.lay, data_depth, decide_eq_true z1]
    rfl
  · unfold SeqAt.shaped
    rw [he.lay, data_depth, decide_eq_true z2]
    rfl
  · rw [Tv.eqv hd he, ← NestedKey.decide_eq]
    exact q
end
section
variable {K : PySem.W.Frag} {σ : L2.St} {H H' : Hp} {ta tb te tx : TE} {d e : NestedKey}
theorem ev_eqT {neg : Bool} (ha : EvD K ta σ H d) (hb : EvD K tb σ H e) (z1 : d.depth ≤ 64) (z2 : e.depth ≤ 64) : Ev (tOp (rEqT K neg) ta tb) σ H (.bl (if neg then !decide (d = e) else decide (d = e))) :=
  (evp_op (P' := IsV _) ha sty_D hb fun x y H1 _ px py Q q => ⟨d, e, px, py, z1, z2, q _ H1 (Ex.refl H1) rfl⟩).ev
theorem ev_ltL {ns ms : List Int} (ha : EvD K ta σ H (eL ns)) (hb : EvD K tb σ H (eL ms)) : Ev (tOp (rLtT K) ta tb) σ H (.bl (HT.lexLt ns ms)) :=
  (evp_op (P' := IsV _) ha sty_D hb fun x y H1 _ px py Q q => by
    obtain ⟨a, rfl, h1⟩ := Tv.intsI px
    obtain ⟨b, rfl, h2⟩ := Tv.intsI py
    exact ⟨a, b, ns, ms, rfl, rfl, h1, h2, q _ H1 (Ex.refl H1) rfl⟩).ev
end

/-! ### what an iterable gives, for comprehensions -/
def EvI (wi : TI) (σ : L2.St) (H : Hp) (n : Nat) (Y : Nat → VP) : Prop := ∀ H1, Ex H H1 → ∀ R : It → Hp → Prop,
  (∀ J H2, Ex H1 H2 → (∃ (G : Hp → Prop) (Yd : Nat → Hp → V → Hp → Prop), Walk J n G Yd ∧ (∀ H', Ex H2 H' → G H') ∧ ∀ i H3 x H4, i < n → Ex H2 H3 → Yd i H3 x H4 → Ex H3 H4 ∧ Y i x H4) → R J H2) → wi σ H1 R
/-- a target takes x -/
def GvG (g : TG) (x : V) (σ : L2.St) (H : Hp) (N : L2.St → Hp → Prop) : Prop := ∀ Q : L2.St → Hp → Prop, (∀ σ2 H2, Ex H H2 → N σ2 H2 → Q σ2 H2) → g x σ H Q
def LP (f : Nat → Bool) (P : Nat → VP) (n : Nat) (ys : List V) (H : Hp) : Prop := Paired (fun i v => P i v H) ((List.range n).filter f) ys
theorem LP.ex {f : Nat → Bool} {P : Nat → VP} (hP : ∀ i, StK (P i)) {n : Nat} {ys : List V} {H H' : Hp} (e : Kp H H') (h : LP f P n ys H) : LP f P n ys H' := by
  unfold LP at h ⊢
  revert h
  generalize (List.range n).filter f = is
  intro h
  induction h with
  | nil => exact .nil
  | cons h t ih => exact .cons (hP _ _ _ _ e h) ih
theorem LP.zero {f : Nat → Bool} {P : Nat → VP} {H : Hp} : LP f P 0 [] H := .nil
theorem LP.yes {f : Nat → Bool} {P : Nat → VP} {n : Nat} {ys : List V} {H : Hp} {v : V} (hf : f n = true) (h : LP f P n ys H) (hv : P n v H) : LP f P (n + 1) (ys ++ [v]) H := by
  unfold LP
  rw [List.range_succ, List.filter_append]
  have e : [n].filter f = [n] := by simp [hf]
  rw [e]
  exact Paired.snoc h hv
theorem LP.no {f : Nat → Bool} {P : Nat → VP} {n : Nat} {ys : List V} {H : Hp} (hf : f n = false) (h : LP f P n ys H) : LP f P (n + 1) ys H := by
  unfold LP
  rw [List.range_succ, List.filter_append]
  have e : [n].filter f = [] := by simp [hf]
  rw [e, List.append_nil]
  exact h
theorem LP.len {f : Nat → Bool} {P : Nat → VP} {n : Nat} {ys : List V} {H : Hp} (h : LP f P n ys H) : ys.length ≤ n := by
  have h1 := Paired.length h
  have h2 := List.length_filter_le f (List.range n)
  rw [List.length_range] at h2
  omega
/-- a new list of what P tells -/
def IsL (f : Nat → Bool) (P : Nat → VP) (n : Nat) : VP := fun v H => ∃ a ys, v = .ref a ∧ H a = some (.lst ys) ∧ LP f P n ys H
theorem sty_L {f : Nat → Bool} {P : Nat → VP} (hP : ∀ i, StK (P i)) {n : Nat} : Sty (IsL f P n) := fun _ _ _ e ⟨a, ys, h1, h2, h3⟩ => ⟨a, ys, h1, e _ _ h2, h3.ex hP (.ex e)⟩
theorem evp_lc {wi : TI} {g : TG} {tt : TT} {te : TE} {vs : List Nat} {σ : L2.St} {H : Hp} {n : Nat} {Y : Nat → VP} (f : Nat → Bool) (P : Nat → VP) (hP : ∀ i, StK (P i)) (hi : EvI wi σ H n Y) (hz : n ≤ 40000)
    (hs : ∀ i x H1, i < n → Ex H H1 → Y i x H1 → GvG g x (wipe σ vs) H1 fun σ2 H2 => wipe σ2 vs = wipe σ vs ∧ EvT tt σ2 H2 (f i) ∧ (f i = true → EvP te σ2 H2 (P i))) : EvP (tLc wi g tt te vs) σ H (IsL f P n) := fun H1 a Q q => by
  refine hi H1 a _ fun J H2 e2 ⟨G, Yd, wk, hG, hY⟩ D hD => ?_
  refine lc_it wk (fun i H' => Ex H2 H' ∧ ∃ ys, H' D = some (.lst ys) ∧ LP f P i ys H') ⟨Ex.new hD, [], upd_same, .zero⟩ (fun i H' _ p => hG H' p.1) (fun i x H3 H4 hi' p y => ?_) fun H' p => ?_
  · obtain ⟨p1, ys, p2, p3⟩ := p
    obtain ⟨y1, y2⟩ := hY i H3 x H4 hi' p1 y
    refine hs i x H4 hi' (((a.trans e2).trans p1).trans y1) y2 _ fun σ2 H5 e5 ⟨hw, ht, he⟩ => ⟨hw, ht H5 (Ex.refl H5) _ fun H6 e6 => ?_⟩
    have x6 : Ex H3 H6 := (y1.trans e5).trans e6
    cases hf : f i with
    | true =>
      refine he hf H6 e6 _ fun v H7 e7 pv => ⟨ys, e7 _ _ (x6 _ _ p2), sz_lt (by have := p3.len; omega), ?_⟩
      have x7 : Ex H2 (upd H7 D (.lst (ys ++ [v]))) := Ex.mut ((p1.trans x6).trans e7) hD
      have k7 : Kp H7 (upd H7 D (.lst (ys ++ [v]))) := Kp.upd (nrd_lst (e7 _ _ (x6 _ _ p2)))
      exact ⟨x7, _, upd_same, LP.yes hf (p3.ex hP ((Kp.ex (x6.trans e7)).trans k7)) (hP i _ _ _ k7 pv)⟩
    | false =>
      refine ⟨p1.trans x6, ys, x6 _ _ p2, LP.no hf (p3.ex hP (.ex x6))⟩
  · obtain ⟨p1, ys, p2, p3⟩ := p
    exact q _ H' (e2.trans p1) ⟨D, ys, rfl, p2, p3⟩
end FM
/-! The reading layer, on: iterables, lists that are made, tuple(..), all(..), isinstance, promises and calls, statements. -/
namespace FM
open PySem PySem.Spec PyProof.Rows L2 Evl

section
variable {K : PySem.W.Frag} {σ : L2.St} {H H' : Hp} {ta tb te tl tx : TE} {x y z v : V} {r : R2} {P P' R : VP} {d e : NestedKey} {n : Nat} {Y : Nat → VP}
/-! ### iterables -/
theorem evi_list (h : EvP tl σ H fun v H2 => ∃ a xs, v = .ref a ∧ SqL K H2 a xs ∧ xs.length = n ∧ ∀ i x H3, Ex H2 H3 → xs[i]? = some x → Y i x H3) : EvI (iList K tl) σ H n Y := fun H1 a R q =>
  h H1 a _ fun v H2 e2 ⟨p, xs, ev, hs, hl, hy⟩ => ⟨p, ev, ⟨xs, hs⟩, q _ H2 e2 ⟨_, _, hl ▸ walk_list (K := K) (a := p) (xs := xs), fun H' e => ex_l e hs, fun i H3 x H4 _ e3 y => by
    obtain ⟨rfl, hx⟩ := y
    exact ⟨Ex.refl _, hy i x _ e3 hx⟩⟩⟩
theorem evi_tup (h : EvP tl σ H fun v H2 => ∃ a xs, v = .ref a ∧ SqT K H2 a xs ∧ xs.length = n ∧ ∀ i x H3, Ex H2 H3 → xs[i]? = some x → Y i x H3) : EvI (iTup K tl) σ H n Y := fun H1 a R q =>
  h H1 a _ fun v H2 e2 ⟨p, xs, ev, hs, hl, hy⟩ => ⟨p, ev, ⟨xs, hs⟩, q _ H2 e2 ⟨_, _, hl ▸ walk_tup (K := K) (a := p) (xs := xs), fun H' e => ex_t e hs, fun i H3 x H4 _ e3 y => by
    obtain ⟨rfl, hx⟩ := y
    exact ⟨Ex.refl _, hy i x _ e3 hx⟩⟩⟩
theorem evi_tupD {ds : List NestedKey} (h : EvD K tl σ H (.tup ds)) : EvI (iTup K tl) σ H ds.length (fun i v H => ∃ d, ds[i]? = some d ∧ Tv K H v d) :=
  evi_tup (h.imp fun v H2 _ p => by
    obtain ⟨a, xs, rfl, hs, hd⟩ := Tv.tupI p
    exact ⟨a, xs, rfl, hs, hd.length, fun i x H3 e3 hx => by
      obtain ⟨k, hk, tv⟩ := hd.get hx
      exact ⟨k, hk, tv.ex e3⟩⟩)
/-- a list of data -/
def IsLD (K : PySem.W.Frag) (ds : List NestedKey) : VP := fun v H => ∃ a ys, v = .ref a ∧ H a = some (.lst ys) ∧ TvA K H ys ds
theorem sty_LD {ds : List NestedKey} : Sty (IsLD K ds) := fun _ _ _ e ⟨a, ys, h1, h2, h3⟩ => ⟨a, ys, h1, e _ _ h2, h3.ex e⟩
theorem evi_listD {ds : List NestedKey} (h : EvP tl σ H (IsLD K ds)) : EvI (iList K tl) σ H ds.length (fun i v H => ∃ d, ds[i]? = some d ∧ Tv K H v d) :=
  evi_list (h.imp fun v H2 _ p => by
    obtain ⟨a, xs, rfl, hs, hd⟩ := p
    exact ⟨a, xs, rfl, sq_of hs, hd.length, fun i x H3 e3 hx => by
      obtain ⟨k, hk, tv⟩ := hd.get hx
      exact ⟨k, hk, tv.ex e3⟩⟩)
theorem evi_rng1 {m : Nat} (h : EvA tA σ H [.int (m : Int)]) (hm : m ≤ 100000) : EvI (iRng1 tA) σ H m (fun i => IsV (.int (i : Nat))) := fun H1 a R q =>
  h H1 a _ fun H2 e2 => ⟨(m : Int), rfl, by omega, by omega, by
    rw [Int.toNat_natCast]
    refine q _ H2 e2 ⟨_, _, walk_range, fun _ _ => True.intro, fun i H3 x H4 _ _ y => ?_⟩
    obtain ⟨rfl, hx⟩ := y
    refine ⟨Ex.refl _, ?_⟩
    show x = V.int (i : Int)
    rw [hx]
    show V.int (0 + (i : Int)) = V.int (i : Int)
    rw [Int.zero_add]⟩
theorem evi_rng2 {lo m : Nat} (h : EvA tA σ H [.int (lo : Int), .int (m : Int)]) (hm : m ≤ 100000) (hl : lo ≤ 100000) : EvI (iRng2 tA) σ H (m - lo) (fun i => IsV (.int ((lo + i : Nat) : Int))) := fun H1 a R q =>
  h H1 a _ fun H2 e2 => ⟨(lo : Int), (m : Int), rfl, ⟨by omega, by omega, by omega, by omega⟩, by
    have e : ((m : Int) - (lo : Int)).toNat = m - lo := by omega
    rw [e]
    refine q _ H2 e2 ⟨_, _, walk_range, fun _ _ => True.intro, fun i H3 x H4 _ _ y => ?_⟩
    obtain ⟨rfl, hx⟩ := y
    refine ⟨Ex.refl _, ?_⟩
    rw [hx]
    show V.int _ = V.int _
    congr 1⟩
/-- enumerate(t) of data: a pair at each turn -/
theorem evi_enumT {ta : TA} {ds : List NestedKey} (h : EaD K ta σ H [.tup ds]) : EvI (iEnumT K ta) σ H ds.length (fun i v H => ∃ d, ds[i]? = some d ∧ Tv K H v (.tup [.num (i : Nat), d])) := fun H1 a R q =>
  h H1 a _ fun vs H2 e2 p => by
    cases p with
    | cons p1 p2 =>
      cases p2
      obtain ⟨b, xs, rfl, hs, hd⟩ := Tv.tupI p1
      refine ⟨b, xs, rfl, hs, q _ H2 e2 ⟨_, _, hd.length ▸ walk_enumT (K := K) (a := b) (xs := xs), fun H' e => ex_t e hs, fun i H3 x H4 _ e3 y => ?_⟩⟩
      obtain ⟨T, u, w, rfl, hT, rfl, hu, hw⟩ := y
      cases hu
      obtain ⟨k, hk, tv⟩ := hd.get hw
      refine ⟨Ex.new hT, k, hk, .tup (st_of upd_same) (.cons (.int _) (.cons (tv.ex (e3.trans (Ex.new hT))) .nil))⟩

/-! ### targets -/
theorem gvg_name {j : Nat} {N : L2.St → Hp → Prop} (h : N (σ.set j (some x)) H) : GvG (gName j) x σ H N := fun Q q => q _ H (Ex.refl H) h
theorem gvg_pair {i j : Nat} {N : L2.St → Hp → Prop} {d1 d2 : NestedKey} (hx : Tv K H x (.tup [d1, d2])) (h : ∀ u w, Tv K H u d1 → Tv K H w d2 → N ((σ.set i (some u)).set j (some w)) H) : GvG (gTup K 2 (gCons (gName i) (gCons (gName j) gNil))) x σ H N := fun Q q => by
  obtain ⟨a, xs, rfl, hs, hd⟩ := Tv.tupI hx
  cases hd with
  | @cons u _ _ _ h1 t =>
    cases t with
    | @cons w _ _ _ h2 t2 =>
      cases t2
      exact ⟨a, _, rfl, hs, rfl, u, [w], rfl, w, [], rfl, rfl, q _ H (Ex.refl H) (h u w h1 h2)⟩

/-! ### what is made of the lists -/
theorem lp_data {f : Nat → Bool} {g : Nat → NestedKey} {m : Nat} {ys : List V} (h : LP f (fun i => IsD K (g i)) m ys H) : TvA K H ys (((List.range m).filter f).map g) := by
  unfold LP at h
  revert h
  generalize (List.range m).filter f = is
  intro h
  induction h with
  | nil => exact .nil
  | cons h t ih => exact .cons h ih
theorem lp_true {f : Nat → Bool} {m : Nat} {ys : List V} (h : LP f (fun _ => IsV (.bl true)) m ys H) : ∃ bs : List Bool, ys = bs.map V.bl ∧ bs.all id = true := by
  unfold LP at h
  revert h
  generalize (List.range m).filter f = is
  intro h
  induction h with
  | nil => exact ⟨[], rfl, rfl⟩
  | cons h t ih =>
    obtain ⟨bs, rfl, hb⟩ := ih
    cases h
    exact ⟨true :: bs, rfl, by simpa using hb⟩
theorem filt_range {α β : Type} (p : α → Bool) (h : α → β) (f : Nat → Bool) (g : Nat → β) : ∀ (ds : List α) (k : Nat), (∀ i a, ds[i]? = some a → f (k + i) = p a ∧ g (k + i) = h a) → ((List.range' k ds.length).filter f).map g = (ds.filter p).map h
  | [], _, _ => rfl
  | a :: ds, k, hq => by
    obtain ⟨h1, h2⟩ := hq 0 a rfl
    have ih := filt_range p h f g ds (k + 1) fun i b hb => by
      have := hq (i + 1) b (by simpa using hb)
      rwa [show k + (i + 1) = k + 1 + i by omega] at this
    rw [Nat.add_zero] at h1 h2
    rw [List.length_cons, List.range'_succ, List.filter_cons, List.filter_cons, h1]
    by_cases hp : p a = true
    · rw [if_pos hp, if_pos hp, List.map_cons, List.map_cons, ih, h2]
    · rw [if_neg hp, if_neg hp, ih]
theorem filt_range0 {α β : Type} (p : α → Bool) (h : α → β) (f : Nat → Bool) (g : Nat → β) (ds : List α) (hq : ∀ i a, ds[i]? = some a → f i = p a ∧ g i = h a) : ((List.range ds.length).filter f).map g = (ds.filter p).map h := by
  rw [List.range_eq_range']
  exact filt_range p h f g ds 0 fun i a ha => by
    rw [Nat.zero_add]
    exact hq i a ha
/-- a list made of the members of another: data h a of each a with p a -/
theorem evp_lcD {α : Type} [Inhabited α] {wi : TI} {g : TG} {tt : TT} {vs : List Nat} {Y : Nat → VP} (as : List α) (p : α → Bool) (h : α → NestedKey) (hi : EvI wi σ H as.length Y) (hz : as.length ≤ 40000)
    (hs : ∀ i a x H1, as[i]? = some a → Ex H H1 → Y i x H1 → GvG g x (wipe σ vs) H1 fun σ2 H2 => wipe σ2 vs = wipe σ vs ∧ EvT tt σ2 H2 (p a) ∧ (p a = true → EvD K te σ2 H2 (h a))) : EvP (tLc wi g tt te vs) σ H (IsLD K ((as.filter p).map h)) :=
  (evp_lc (fun i => p (as.getD i default)) (fun i => IsD K (h (as.getD i default))) (fun _ => stk_D) hi hz fun i x H1 hi' e y => by
    have ea : as[i]? = some as[i] := List.getElem?_eq_getElem hi'
    have eg : as.getD i default = as[i] := by rw [List.getD_eq_getElem?_getD, ea]; rfl
    simp only [eg]
    exact hs i as[i] x H1 ea e y).imp fun v H2 _ ⟨a, ys, h1, h2, h3⟩ => by
      have := lp_data h3
      rw [filt_range0 p h _ _ as fun i a ha => by
        have eg : as.getD i default = a := by rw [List.getD_eq_getElem?_getD, ha]; rfl
        rw [eg]
        exact ⟨rfl, rfl⟩] at this
      exact ⟨a, ys, h1, h2, this⟩
theorem et_yes : EvT tYes σ H true := fun H1 _ _ q => q H1 (Ex.refl H1)
/-- all([..]): each is True -/
theorem ev_allTrue {wi : TI} {g : TG} {vs : List Nat} {Y : Nat → VP} (hi : EvI wi σ H n Y) (hz : n ≤ 40000)
    (hs : ∀ i x H1, i < n → Ex H H1 → Y i x H1 → GvG g x (wipe σ vs) H1 fun σ2 H2 => wipe σ2 vs = wipe σ vs ∧ Ev te σ2 H2 (.bl true)) : Ev (tCB (rAll K) (tCons (tLc wi g tYes te vs) tNil)) σ H (.bl true) := by
  have L : EvP (tLc wi g tYes te vs) σ H (IsL (fun _ => true) (fun _ => IsV (.bl true)) n) :=
    evp_lc (fun _ => true) (fun _ => IsV (.bl true)) (fun _ => stk_V) hi hz fun i x H1 hi' e y Q q => hs i x H1 hi' e y Q fun σ2 H2 e2 hh => q σ2 H2 e2 ⟨hh.1, et_yes, fun _ => evp_v hh.2⟩
  intro H1 a Q q
  show tLc wi g tYes te vs σ H1 (fun v H2 => rAll K [v] H2 Q)
  refine L H1 a _ fun v H2 e2 ⟨l, ys, ev, hl, hp⟩ => ?_
  obtain ⟨bs, rfl, hb⟩ := lp_true hp
  refine ⟨l, bs, by rw [ev], sq_of hl, ?_⟩
  rw [hb]
  exact q H2 e2
/-- tuple(list) -/
def rTupOf (K : PySem.W.Frag) : List V → Hp → VK → Prop := fun xs H Q => ∃ p ys, xs = [.ref p] ∧ ((SqL K H p ys ∧ ∀ l, H l = none → Q (.ref l) (upd H l (.tup ys))) ∨ (SqT K H p ys ∧ Q (.ref p) H))
theorem evd_tupOf {ds : List NestedKey} (h : EvP te σ H (IsLD K ds)) : EvD K (tCB (rTupOf K) (tCons te tNil)) σ H (.tup ds) := fun H1 a Q q =>
  h H1 a _ fun v H2 e2 ⟨l, ys, ev, hl, hp⟩ => ⟨l, ys, by rw [ev], .inl ⟨sq_of hl, fun t ht => q _ _ (e2.trans (Ex.new ht)) (.tup (st_of upd_same) (hp.ex (Ex.new ht)))⟩⟩
/-- tuple(range(n)) -/
theorem evd_tupRg {m : Nat} (h : Ev te σ H (.int (m : Int))) (hm : m ≤ 100000) : EvD K (tTupRg (tRg1 te)) σ H (eL ((List.range m).map fun (i : Nat) => (i : Int))) := fun H1 a Q q =>
  h H1 a _ fun H2 e2 => ⟨(m : Int), rfl, ⟨by omega, by omega, by omega, by omega, by omega⟩, fun t ht => q _ _ (e2.trans (Ex.new ht)) (by
    have e : rgV 0 (m : Int) = ((List.range m).map fun (i : Nat) => (i : Int)).map V.int := by
      unfold rgV
      rw [Int.sub_zero, Int.toNat_natCast, List.map_map]
      refine List.map_congr_left fun i _ => ?_
      show V.int (0 + (i : Int)) = V.int (i : Int)
      rw [Int.zero_add]
    rw [e]
    exact Tv.ints (st_of upd_same))⟩
/-- len of data -/
theorem ev_lenD {ds : List NestedKey} (h : EvD K te σ H (.tup ds)) : Ev (tCB (rLenS K) (tCons te tNil)) σ H (.int (ds.length : Int)) := fun H1 a Q q =>
  h H1 a _ fun v H2 e2 p => by
    obtain ⟨t, xs, rfl, hs, hd⟩ := Tv.tupI p
    refine ⟨t, xs, rfl, .inr hs, ?_⟩
    rw [hd.length]
    exact q H2 e2
theorem ev_lenLD {ds : List NestedKey} (h : EvP te σ H (IsLD K ds)) : Ev (tCB (rLenS K) (tCons te tNil)) σ H (.int (ds.length : Int)) := fun H1 a Q q =>
  h H1 a _ fun v H2 e2 ⟨l, ys, ev, hl, hp⟩ => by
    refine ⟨l, ys, by rw [ev], .inl (sq_of hl), ?_⟩
    rw [hp.length]
    exact q H2 e2

/-! ### isinstance -/
theorem tyx_tup {ds : List NestedKey} (h : Tv K H v (.tup ds)) : TyX K H v (.type "tuple") := by
  obtain ⟨a, xs, rfl, hs, _⟩ := Tv.tupI h
  rcases hs with (hs | ⟨o, hs⟩) | ⟨o, its, n, hk, hc, _⟩
  · exact .base (.tup hs)
  · exact .fTuple hs
  · exact .kTuple hk hc
theorem tyx_num {i : Int} (h : Tv K H v (.num i)) : TyX K H v (.type "int") := by
  cases Tv.num h
  exact .base (.int i)
theorem ev_isiTup {ds : List NestedKey} (h : EvD K te σ H (.tup ds)) (hc : Ev tb σ H (.ty "tuple")) : Ev (tCB (rIsi K) (tCons te (tCons tb tNil))) σ H (.bl true) := fun H1 a Q q =>
  h H1 a _ fun v H2 e2 p => hc H2 (a.trans e2) _ fun H3 e3 => ⟨v, .ty "tuple", _, _, true, rfl, .ty _, tyx_tup (Tv.ex p e3), kit_ty (by decide +kernel), q H3 (e2.trans e3)⟩
theorem ev_isiInt {i : Int} (h : EvD K te σ H (.num i)) (hc : Ev tb σ H (.ty "int")) : Ev (tCB (rIsi K) (tCons te (tCons tb tNil))) σ H (.bl true) := fun H1 a Q q =>
  h H1 a _ fun v H2 e2 p => hc H2 (a.trans e2) _ fun H3 e3 => ⟨v, .ty "int", _, _, true, rfl, .ty _, tyx_num (Tv.ex p e3), kit_ty (by decide +kernel), q H3 (e2.trans e3)⟩
theorem ev_isiBool {i : Int} (h : EvD K te σ H (.num i)) (hc : Ev tb σ H (.ty "bool")) : Ev (tCB (rIsi K) (tCons te (tCons tb tNil))) σ H (.bl false) := fun H1 a Q q =>
  h H1 a _ fun v H2 e2 p => hc H2 (a.trans e2) _ fun H3 e3 => ⟨v, .ty "bool", _, _, false, rfl, .ty _, tyx_num (Tv.ex p e3), kit_ty (by decide +kernel), q H3 (e2.trans e3)⟩
end
section
variable {X : Cx}
/-- isinstance(d, dict) -/
theorem call_isiNd : CallR X (.builtin "isinstance") (fun xs H Q => ∃ a l, xs = [.ref a, .ty "dict"] ∧ Rd H a (NDO X.prog X.w a l) ∧ Q (.bl true) H) := by
  intro pins s σ H xs us Q I r h
  obtain ⟨a, l, rfl, hr, q⟩ := h
  obtain ⟨u1, u2, rfl, r1, r2⟩ := r.two
  obtain rfl : u1 = .ref a := r1
  obtain rfl : u2 = .type "dict" := r2
  obtain ⟨⟨o, ho, hc⟩, _, _⟩ := nd_type I hr
  exact PySem.W.kia_one (K := X.K) (b := true) PySem.W.kitx_dict I.kIn (show PySem.W.KitAt a "dict" s.heap from ⟨o, ho, hc⟩) (kit_ty (by decide +kernel)) (fun z => nomatch z) fun tk => ⟨.bl true, H, I.tok tk, rfl, q⟩
end

/-! ### promises -/
/-- told by a relation: arguments and the heap ahead; what the answer is -/
def spG (F : List V → Hp → VP → Prop) : Sp := fun vs H Q _ => ∃ P, F vs H P ∧ ∀ v H2, Ex H H2 → P v H2 → Q v H2
/-- of data -/
def spD (K : PySem.W.Frag) (f : List NestedKey → VP → Prop) : Sp := spG fun vs H P => ∃ ds, TvA K H vs ds ∧ f ds P
section
variable {K : PySem.W.Frag} {σ : L2.St} {H H' : Hp} {P P' R : VP}
theorem evp_call {F : List V → Hp → VP → Prop} {ta : TA} {R : List V → Hp → Prop} {E : XK} (h : EaP ta σ H R) (hF : ∀ vs H1, Ex H H1 → R vs H1 → ∃ P0, F vs H1 P0 ∧ ∀ v H2, Ex H1 H2 → P0 v H2 → P v H2) : EvP (tCall (spG F) [] E ta) σ H P := fun H1 a Q q =>
  h H1 a _ fun vs H2 e2 p => by
    obtain ⟨P0, f0, k0⟩ := hF vs H2 (a.trans e2) p
    rw [List.append_nil]
    exact ⟨P0, f0, fun v H3 e3 p0 => q v H3 (e2.trans e3) (k0 v H3 e3 p0)⟩
theorem evp_callD {f : List NestedKey → VP → Prop} {ta : TA} {ds : List NestedKey} {E : XK} (h : EaD K ta σ H ds) (hf : f ds P) : EvP (tCall (spD K f) [] E ta) σ H P :=
  evp_call h fun vs H1 _ p => ⟨P, ⟨ds, p, hf⟩, fun _ _ _ h => h⟩
theorem spD_len {f : List NestedKey → VP → Prop} {vs : List V} {H : Hp} {Q : VK} {E : XK} {n : Nat} (h : spD K f vs H Q E) (hf : ∀ ds P, f ds P → ds.length = n) : vs.length = n := by
  obtain ⟨P, ⟨ds, h1, h2⟩, _⟩ := h
  rw [h1.length]
  exact hf ds P h2
end

/-! ### statements -/
section
variable {σ : L2.St} {H H' : Hp} {P : VP} {te : TE} {D : Ends} {tz : TS}
theorem sp_asg {i : Nat} (h : EvP te σ H P) (k : ∀ v H1, Ex H H1 → P v H1 → D.nx (σ.set i (some v)) H1) : tAsg te (gName i) D σ H := h H (Ex.refl H) _ k
theorem sp_ret (h : EvP te σ H P) (k : ∀ v H1, Ex H H1 → P v H1 → D.rt v H1) : tRet te D σ H := h H (Ex.refl H) _ k
theorem sp_drop (h : EvP te σ H P) (k : ∀ v H1, Ex H H1 → P v H1 → D.nx σ H1) : tDrop te D σ H := h H (Ex.refl H) _ k
theorem qp_asg {i : Nat} (h : EvP te σ H P) (k : ∀ v H1, Ex H H1 → P v H1 → tz D (σ.set i (some v)) H1) : tSeq (tAsg te (gName i)) tz D σ H := sp_asg (D := { D with nx := tz D }) h k
/-- a target of any kind takes it -/
theorem qp_asgG {g : TG} (h : EvP te σ H P) (k : ∀ v H1, Ex H H1 → P v H1 → GvG g v σ H1 fun σ2 H2 => tz D σ2 H2) : tSeq (tAsg te g) tz D σ H := h H (Ex.refl H) _ fun v H1 e p => k v H1 e p _ fun _ _ _ q => q
theorem qp_drop (h : EvP te σ H P) (k : ∀ v H1, Ex H H1 → P v H1 → tz D σ H1) : tSeq (tDrop te) tz D σ H := sp_drop (D := { D with nx := tz D }) h k
end
end FM
/-! The text by places; what the top has written; defs called by name. -/
namespace FM
open PySem PySem.Spec PyProof.Rows L2 Evl
def top (i : Nat) : Stmt := PySem.Challenge.pw_fairmasks_k06_whole_fair_habits_by_share.main.body.getD i (.Pass ⟨0, 0, 0, 0⟩)
theorem boot_isinstance : bootBuiltins "isinstance" = some (.builtin "isinstance") := by decide +kernel
theorem boot_len : bootBuiltins "len" = some (.builtin "len") := by decide +kernel
theorem boot_int : bootBuiltins "int" = some (.type "int") := by decide +kernel
theorem boot_bool : bootBuiltins "bool" = some (.type "bool") := by decide +kernel
theorem boot_list : bootBuiltins "list" = some (.type "list") := by decide +kernel
theorem boot_dict : bootBuiltins "dict" = some (.type "dict") := by decide +kernel
theorem boot_tuple : bootBuiltins "tuple" = some (.type "tuple") := by decide +kernel
theorem boot_set : bootBuiltins "set" = some (.type "set") := by decide +kernel
theorem boot_zip : bootBuiltins "zip" = some (.type "zip") := by decide +kernel
theorem boot_sorted : bootBuiltins "sorted" = some (.builtin "sorted") := by decide +kernel
theorem boot_all : bootBuiltins "all" = some (.builtin "all") := by decide +kernel
theorem boot_abs : bootBuiltins "abs" = some (.builtin "abs") := by decide +kernel

/-- what the top has written: the built-ins untouched, the constants -/
structure Txt (K : PySem.W.Frag) (mg : Str → Option Value) (aN aO : Addr) (tC tM : Tok) : Prop where
  isinstance : mg "isinstance" = none
  int : mg "int" = none
  bool : mg "bool" = none
  tuple : mg "tuple" = none
  len : mg "len" = none
  all : mg "all" = none
  abs : mg "abs" = none
  range : mg "range" = none
  dict : mg "dict" = none
  zip : mg "zip" = none
  enumerate : mg "enumerate" = none
  list : mg "list" = none
  sorted : mg "sorted" = none
  set : mg "set" = none
  gNOTHING : mg "NOTHING" = some (.ref aN)
  gONE : mg "ONE" = some (.ref aO)
  tN : ∀ H, Tv K H (.ref aN) (eF (0, 1))
  tO : ∀ H, Tv K H (.ref aO) (eF (1, 1))
  gMOST_COLUMNS : mg "MOST_COLUMNS" = some (.int 5 tC)
  gMOST_CONTENTS : mg "MOST_CONTENTS" = some (.int 256 tM)
/-- a def of the text, where it stands -/
structure Df (K : PySem.W.Frag) (mg : Str → Option Value) (name qual : Str) (st : Stmt) (ps : List Str) : Prop where
  ex : ∃ (f : Addr) (fd : FuncData), Fun K name qual st f fd ∧ mg name = some (.ref f) ∧ PySem.W.keepIn K (.ref f) = true ∧ Binds K fd ps []
/-- a def and its promise -/
structure Fn (P : Program) (w : World) (K : PySem.W.Frag) (mg : Str → Option Value) (base : Heap) (name : Str) (k : Nat) (ps : List Str) (sp : Sp) : Prop where
  ex : ∃ (f : Addr) (fd : FuncData), FnOk P w K mg base CX0 k f fd ps sp ∧ mg name = some (.ref f) ∧ PySem.W.keepIn K (.ref f) = true ∧ Binds K fd ps []
theorem Df.fn {P : Program} {w : World} {K : PySem.W.Frag} {mg : Str → Option Value} {base : Heap} {name qual : Str} {st : Stmt} {ps : List Str} {k : Nat} {sp : Sp} (h : Df K mg name qual st ps) (ok : ∀ f fd, Fun K name qual st f fd → FnOk P w K mg base CX0 k f fd ps sp) : Fn P w K mg base name k ps sp :=
  let ⟨f, fd, h1, h2, h3, h4⟩ := h.ex
  ⟨f, fd, ok f fd h1, h2, h3, h4⟩
def EN : XK := fun _ _ _ => False
theorem pe_callF {X : Cx} {k : Nat} {x : Str} {ps : List Str} {sp : Sp} {p pos : Pos} {e : Expr} {es : List Expr} {t : TA} (h : Fn X.prog X.w X.K X.mg X.base x k ps sp) (hr : Room k X.A) (ha : PA X (e :: es) t) (hg : Gl X x := by rfl)
    (hdb : (x == ("__debug__" : Str)) = false := by decide) (he : starEach (e :: es) X.env = (false, eval e X.env) :: starEach es X.env := by rfl) (hpl : (backTo pos (starEach es X.env)).any (·.1) = false := by rfl) :
    PE X (.Call (.Name x p) (e :: es) [] pos) (tCall sp [] EN t) := by
  obtain ⟨f, fd, h1, h2, h3, h4⟩ := h.ex
  exact pe_call h1 hr hg h2 h3 h4 .nil pass0 ha hdb he hpl
end FM
/-! Fractions in lowest terms, in plain Lean. -/
namespace FM
/-- the greatest common divisor, as an Int -/
def gI (a b : Int) : Int := (Nat.gcd a.natAbs b.natAbs : Nat)
/-- k/B in lowest terms -/
def lw (k B : Int) : Int × Int := (k / gI k B, B / gI k B)
theorem gI_pos {k B : Int} (h : 0 < B) : 0 < gI k B := by
  have : 0 < Nat.gcd k.natAbs B.natAbs := Nat.gcd_pos_of_pos_right _ (by omega)
  unfold gI
  omega
theorem gI_le {k B : Int} (h : 0 < B) : gI k B ≤ B := by
  have : Nat.gcd k.natAbs B.natAbs ≤ B.natAbs := Nat.gcd_le_right _ (by omega)
  unfold gI
  omega
theorem gI_dvd_l (k B : Int) : gI k B ∣ k := Int.ofNat_dvd_left.mpr (Nat.gcd_dvd_left _ _)
theorem gI_dvd_r (k B : Int) : gI k B ∣ B := Int.ofNat_dvd_left.mpr (Nat.gcd_dvd_right _ _)
theorem lw_l (k B : Int) : gI k B * (lw k B).1 = k := Int.mul_ediv_cancel' (gI_dvd_l k B)
theorem lw_r (k B : Int) : gI k B * (lw k B).2 = B := Int.mul_ediv_cancel' (gI_dvd_r k B)
theorem lw_pos {k B : Int} (h : 0 < B) : 0 < (lw k B).2 := by
  have e := lw_r k B
  have g := gI_pos (k := k) h
  rcases Int.lt_or_le 0 (lw k B).2 with h2 | h2
  · exact h2
  · have := Int.mul_nonpos_of_nonneg_of_nonpos (Int.le_of_lt g) h2
    omega
theorem lw_le {k B : Int} (h : 0 < B) : (lw k B).2 ≤ B := Int.ediv_le_self _ (Int.le_of_lt h)
theorem lw_cross (k B : Int) : (lw k B).1 * B = k * (lw k B).2 := by
  have e1 := lw_l k B
  have e2 := lw_r k B
  generalize (lw k B).1 = p at *
  generalize (lw k B).2 = q at *
  generalize gI k B = g at *
  subst e1
  rw [← e2]
  grind
theorem lw_cop {k B : Int} (h : 0 < B) : gI (lw k B).1 (lw k B).2 = 1 := by
  have g := gI_pos (k := k) h
  have hp : 0 < Nat.gcd k.natAbs B.natAbs := Nat.gcd_pos_of_pos_right _ (by omega)
  have h1 : Nat.gcd (k.natAbs / Nat.gcd k.natAbs B.natAbs) (B.natAbs / Nat.gcd k.natAbs B.natAbs) = 1 := by
    rw [Nat.gcd_div (Nat.gcd_dvd_left _ _) (Nat.gcd_dvd_right _ _), Nat.div_self hp]
  unfold gI lw
  have e1 : (k / gI k B).natAbs = k.natAbs / Nat.gcd k.natAbs B.natAbs := by
    rw [Int.natAbs_ediv_of_dvd (gI_dvd_l k B)]
    rfl
  have e2 : (B / gI k B).natAbs = B.natAbs / Nat.gcd k.natAbs B.natAbs := by
    rw [Int.natAbs_ediv_of_dvd (gI_dvd_r k B)]
    rfl
  show ((Nat.gcd (k / gI k B).natAbs (B / gI k B).natAbs : Nat) : Int) = 1
  rw [e1, e2, h1]
  rfl
/-- coprime pairs that say the same are the same -/
theorem cop_eq {a b c d : Int} (hb : 0 < b) (hd : 0 < d) (h1 : gI a b = 1) (h2 : gI c d = 1) (h : a * d = c * b) : a = c ∧ b = d := by
  have n1 : Nat.gcd a.natAbs b.natAbs = 1 := by unfold gI at h1; omega
  have n2 : Nat.gcd c.natAbs d.natAbs = 1 := by unfold gI at h2; omega
  have hn : a.natAbs * d.natAbs = c.natAbs * b.natAbs := by rw [← Int.natAbs_mul, ← Int.natAbs_mul, h]
  have d1 : b.natAbs ∣ d.natAbs := by
    refine Nat.Coprime.dvd_of_dvd_mul_left (m := a.natAbs) (Nat.Coprime.symm n1) ?_
    rw [hn]
    exact Nat.dvd_mul_left _ _
  have d2 : d.natAbs ∣ b.natAbs := by
    refine Nat.Coprime.dvd_of_dvd_mul_left (m := c.natAbs) (Nat.Coprime.symm n2) ?_
    rw [← hn]
    exact Nat.dvd_mul_left _ _
  have e := Nat.dvd_antisymm d1 d2
  have eb : b = d := by omega
  subst eb
  exact ⟨Int.eq_of_mul_eq_mul_right (by omega) h, rfl⟩
/-- the same fraction, the same lowest terms -/
theorem lw_eq {t b t' b' : Int} (hb : 0 < b) (hb' : 0 < b') (h : t * b' = t' * b) : lw t b = lw t' b' := by
  have := cop_eq (lw_pos (k := t) hb) (lw_pos (k := t') hb') (lw_cop hb) (lw_cop hb') (by
    have e1 := lw_l t b
    have e2 := lw_r t b
    have e3 := lw_l t' b'
    have e4 := lw_r t' b'
    have g1 := gI_pos (k := t) hb
    have g2 := gI_pos (k := t') hb'
    generalize (lw t b).1 = p at *
    generalize (lw t b).2 = q at *
    generalize (lw t' b').1 = p' at *
    generalize (lw t' b').2 = q' at *
    generalize gI t b = g at *
    generalize gI t' b' = g' at *
    have h' : (g * g') * (p * q') = (g * g') * (p' * q) := by
      rw [← e1, ← e2, ← e3, ← e4] at h
      grind
    exact Int.eq_of_mul_eq_mul_left (Int.ne_of_gt (Int.mul_pos g1 g2)) h')
  exact Prod.ext this.1 this.2
theorem lw_inj {k j B : Int} (h : 0 < B) (e : lw k B = lw j B) : k = j := by
  have c1 := lw_cross k B
  have c2 := lw_cross j B
  rw [e] at c1
  rw [c1] at c2
  exact Int.eq_of_mul_eq_mul_right (Int.ne_of_gt (lw_pos h)) c2
theorem lw_zero {B : Int} (h : 0 < B) : lw 0 B = (0, 1) := by
  have : lw 0 B = lw 0 1 := lw_eq h (by decide) (by simp)
  rw [this]
  decide
theorem lw_one {B : Int} (h : 0 < B) : lw B B = (1, 1) := by
  have : lw B B = lw 1 1 := lw_eq h (by decide) (by simp)
  rw [this]
  decide
theorem lw_nonneg {k B : Int} (h : 0 < B) (hk : 0 ≤ k) : 0 ≤ (lw k B).1 := Int.ediv_nonneg hk (Int.le_of_lt (gI_pos h))
theorem lw_le_bot {k B : Int} (h : 0 < B) (hk : k ≤ B) : (lw k B).1 ≤ (lw k B).2 := Int.ediv_le_ediv (gI_pos h) hk
theorem lw_top_pos {k B : Int} (h : 0 < B) : 0 < (lw k B).1 ↔ 0 < k := by
  have e := lw_l k B
  have g := gI_pos (k := k) h
  constructor
  · intro hp
    have := Int.mul_pos g hp
    omega
  · intro hk
    rcases Int.lt_or_le 0 (lw k B).1 with h2 | h2
    · exact h2
    · have := Int.mul_nonpos_of_nonneg_of_nonpos (Int.le_of_lt g) h2
      omega
theorem lw_ne_zero {k B : Int} (h : 0 < B) : lw k B = (0, 1) ↔ k = 0 := by
  constructor
  · intro e
    rw [← lw_zero h] at e
    exact lw_inj h e
  · intro e
    rw [e, lw_zero h]
/-- the sum of two, their bottoms the same | any -/
theorem lw_add1 {k j B : Int} (h : 0 < B) (e : (lw k B).2 = (lw j B).2) : lw ((lw k B).1 + (lw j B).1) (lw k B).2 = lw (k + j) B := by
  refine lw_eq (lw_pos h) h ?_
  have c1 := lw_cross k B
  have c2 := lw_cross j B
  rw [Int.add_mul, Int.add_mul, c1, c2, e]
theorem lw_add2 {k j B : Int} (h : 0 < B) : lw ((lw k B).1 * (lw j B).2 + (lw j B).1 * (lw k B).2) ((lw k B).2 * (lw j B).2) = lw (k + j) B := by
  refine lw_eq (Int.mul_pos (lw_pos h) (lw_pos h)) h ?_
  have c1 := lw_cross k B
  have c2 := lw_cross j B
  generalize (lw k B).1 = p at *
  generalize (lw k B).2 = q at *
  generalize (lw j B).1 = p' at *
  generalize (lw j B).2 = q' at *
  grind
theorem lw_neg (j B : Int) : -(lw j B).1 = (lw (-j) B).1 ∧ (lw j B).2 = (lw (-j) B).2 := by
  have e : gI (-j) B = gI j B := by
    unfold gI
    rw [Int.natAbs_neg]
  unfold lw
  rw [e]
  refine ⟨?_, rfl⟩
  show -(j / gI j B) = -j / gI j B
  exact (Int.neg_ediv_of_dvd (gI_dvd_l j B)).symm
/-- which of two is below -/
theorem lw_lt {k j B : Int} (h : 0 < B) : (lw k B).1 * (lw j B).2 < (lw j B).1 * (lw k B).2 ↔ k < j := by
  have c1 := lw_cross k B
  have c2 := lw_cross j B
  have p1 := lw_pos (k := k) h
  have p2 := lw_pos (k := j) h
  generalize (lw k B).1 = p at *
  generalize (lw k B).2 = q at *
  generalize (lw j B).1 = p' at *
  generalize (lw j B).2 = q' at *
  have e1 : (p * q') * B = k * (q * q') := by grind
  have e2 : (p' * q) * B = j * (q * q') := by grind
  have hq : 0 < q * q' := Int.mul_pos p1 p2
  constructor
  · intro hlt
    have := Int.mul_lt_mul_of_pos_right hlt h
    rw [e1, e2] at this
    exact Int.lt_of_mul_lt_mul_right this (Int.le_of_lt hq)
  · intro hlt
    have := Int.mul_lt_mul_of_pos_right hlt hq
    rw [← e1, ← e2] at this
    exact Int.lt_of_mul_lt_mul_right this (Int.le_of_lt h)
/-- one turn of Euclid's loop -/
theorem gI_step {a b : Nat} (h : 0 < b) : Nat.gcd b (a % b) = Nat.gcd a b := by
  rw [Nat.gcd_comm a b, Nat.gcd_rec b a, Nat.gcd_comm]
end FM
/-! Order, contents, patterns, in plain Lean. -/
namespace FM
open PySem PySem.W PyProof.Rows
/-! ### the order of tuples of ints -/
abbrev lexL (p q : List Int) : Bool := HT.lexLt p q
theorem lexL_self : ∀ p : List Int, lexL p p = false
  | [] => rfl
  | x :: p => by
    show HT.lexLt (x :: p) (x :: p) = false
    rw [HT.lexLt_cons, if_pos rfl]
    exact lexL_self p
theorem lexL_asym : ∀ {p q : List Int}, lexL p q = true → lexL q p = false
  | [], [], h => by cases h
  | [], _ :: _, _ => rfl
  | _ :: _, [], h => by cases h
  | x :: p, y :: q, h => by
    unfold lexL at h ⊢
    rw [HT.lexLt_cons] at h ⊢
    by_cases e : x = y
    · rw [if_pos e] at h
      rw [if_pos e.symm]
      exact lexL_asym h
    · rw [if_neg e] at h
      rw [if_neg (fun z => e z.symm)]
      have := of_decide_eq_true h
      exact decide_eq_false (by omega)
theorem lexL_conn : ∀ {p q : List Int}, p ≠ q → lexL q p = false → lexL p q = true
  | [], [], h, _ => absurd rfl h
  | [], _ :: _, _, _ => rfl
  | _ :: _, [], _, h => by cases h
  | x :: p, y :: q, h, h2 => by
    unfold lexL at h2 ⊢
    rw [HT.lexLt_cons] at h2 ⊢
    by_cases e : x = y
    · rw [if_pos e.symm] at h2
      rw [if_pos e]
      exact lexL_conn (fun z => h (by rw [e, z])) h2
    · rw [if_neg (fun z => e z.symm)] at h2
      rw [if_neg e]
      have := of_decide_eq_false h2
      exact decide_eq_true (by omega)
/-- a tuple of ints as a row of signs -/
abbrev tk (p : List Int) : List (Int ⊕ List Nat) := keyToksAll (NestedKey.datas (p.map NestedKey.num))
theorem tk_cons (x : Int) (p : List Int) : tk (x :: p) = Sum.inl 1 :: Sum.inl x :: tk p := rfl
theorem blt_inl (x y : Int) : itemOrd.blt (Sum.inl x) (Sum.inl y) = decide (x < y) := rfl
theorem tk_ne : ∀ {p q : List Int} (l m : List (Int ⊕ List Nat)), p ≠ q → PyProof.Rows.lexLt itemOrd (tk p ++ l) (tk q ++ m) = lexL p q
  | [], [], _, _, h => absurd rfl h
  | [], y :: q, l, m, _ => by
    show PyProof.Rows.lexLt itemOrd (Sum.inl 0 :: l) (Sum.inl 1 :: (Sum.inl y :: tk q ++ m)) = true
    rw [lex_diff (O := itemOrd) (by simp), blt_inl]
    rfl
  | x :: p, [], l, m, _ => by
    show PyProof.Rows.lexLt itemOrd (Sum.inl 1 :: (Sum.inl x :: tk p ++ l)) (Sum.inl 0 :: m) = false
    rw [lex_diff (O := itemOrd) (by simp), blt_inl]
    rfl
  | x :: p, y :: q, l, m, h => by
    show PyProof.Rows.lexLt itemOrd (Sum.inl 1 :: (Sum.inl x :: (tk p ++ l))) (Sum.inl 1 :: (Sum.inl y :: (tk q ++ m))) = HT.lexLt (x :: p) (y :: q)
    rw [lex_self (O := itemOrd), HT.lexLt_cons]
    by_cases e : x = y
    · subst e
      rw [lex_self (O := itemOrd), if_pos rfl]
      exact tk_ne l m fun z => h (by rw [z])
    · rw [lex_diff (O := itemOrd) (by simp [e]), if_neg e, blt_inl]
theorem dataLt_eL (p q : List Int) : dataLt (eL p).data (eL q).data = lexL p q := by
  by_cases h : p = q
  · subst h
    rw [lexL_self]
    show PyProof.Rows.lexLt itemOrd (tk p) (tk p) = false
    have : ∀ l : List (Int ⊕ List Nat), PyProof.Rows.lexLt itemOrd l l = false := fun l => by
      induction l with
      | nil => rfl
      | cons x l ih => rw [lex_self (O := itemOrd), ih]
    exact this _
  · have := tk_ne [] [] h
    rw [List.append_nil, List.append_nil] at this
    exact this
theorem dataLt_eP {p q : List Int} (f g : Int × Int) (h : p ≠ q) : dataLt (eP (p, f)).data (eP (q, g)).data = lexL p q := by
  show PyProof.Rows.lexLt itemOrd (Sum.inl 1 :: (tk p ++ _)) (Sum.inl 1 :: (tk q ++ _)) = lexL p q
  rw [lex_self (O := itemOrd)]
  exact tk_ne _ _ h
theorem alike_nums : ∀ p q : List Int, alikeAll (NestedKey.datas (p.map NestedKey.num)) (NestedKey.datas (q.map NestedKey.num)) = true
  | [], _ => rfl
  | _ :: _, [] => rfl
  | x :: p, y :: q => by
    show (alike (.int x) (.int y) && alikeAll (NestedKey.datas (p.map NestedKey.num)) (NestedKey.datas (q.map NestedKey.num))) = true
    rw [alike_nums p q]
    rfl
theorem srt_eL (ps : List (List Int)) : Srt (ps.map eL) where
  tup := fun d hd => by
    obtain ⟨p, _, rfl⟩ := List.mem_map.mp hd
    exact ⟨_, rfl⟩
  al := fun d hd e he => by
    obtain ⟨p, _, rfl⟩ := List.mem_map.mp hd
    obtain ⟨q, _, rfl⟩ := List.mem_map.mp he
    exact alike_nums p q
  dep := fun d hd => by
    obtain ⟨p, _, rfl⟩ := List.mem_map.mp hd
    rw [depth_eL]
    decide
theorem srt_eP (ps : List (List Int × (Int × Int))) : Srt (ps.map eP) where
  tup := fun d hd => by
    obtain ⟨p, _, rfl⟩ := List.mem_map.mp hd
    exact ⟨_, rfl⟩
  al := fun d hd e he => by
    obtain ⟨p, _, rfl⟩ := List.mem_map.mp hd
    obtain ⟨q, _, rfl⟩ := List.mem_map.mp he
    show (alike (eL p.1).data (eL q.1).data && (alike (eF p.2).data (eF q.2).data && true)) = true
    rw [show alike (eL p.1).data (eL q.1).data = true from alike_nums p.1 q.1]
    rfl
  dep := fun d hd => by
    obtain ⟨p, _, rfl⟩ := List.mem_map.mp hd
    rw [depth_eP]
    decide
/-- strictly sorted lists of the same members are the same -/
theorem sorted_one {α : Type} {R : α → α → Prop} (as : ∀ a b, R a b → ¬ R b a) : ∀ {l m : List α}, l.Pairwise R → m.Pairwise R → (∀ x, x ∈ l ↔ x ∈ m) → l = m
  | [], [], _, _, _ => rfl
  | [], b :: m, _, _, h => by
    have := (h b).mpr List.mem_cons_self
    cases this
  | a :: l, [], _, _, h => by
    have := (h a).mp List.mem_cons_self
    cases this
  | a :: l, b :: m, hl, hm, h => by
    have hl' := List.pairwise_cons.mp hl
    have hm' := List.pairwise_cons.mp hm
    have e : a = b := by
      rcases List.mem_cons.mp ((h a).mp List.mem_cons_self) with e | ha
      · exact e
      · rcases List.mem_cons.mp ((h b).mpr List.mem_cons_self) with e | hb
        · exact e.symm
        · exact absurd (hl'.1 b hb) (as _ _ (hm'.1 a ha))
    subst e
    rw [sorted_one as hl'.2 hm'.2 fun x => ⟨fun hx => ?_, fun hx => ?_⟩]
    · rcases List.mem_cons.mp ((h x).mp (List.mem_cons_of_mem _ hx)) with e | hx'
      · subst e
        exact absurd (hl'.1 x hx) (as _ _ (hl'.1 x hx))
      · exact hx'
    · rcases List.mem_cons.mp ((h x).mpr (List.mem_cons_of_mem _ hx)) with e | hx'
      · subst e
        exact absurd (hm'.1 x hx) (as _ _ (hm'.1 x hx))
      · exact hx'
/-- what sorting gives, of patterns | of (pattern, share) -/
theorem out_eL {ps : List (List Int)} {es : List NestedKey} (h1 : es.Perm (ps.map eL)) (h2 : es.Pairwise (fun d e => dataLt e.data d.data = false)) (hn : ps.Nodup) : ∃ qs : List (List Int), es = qs.map eL ∧ qs.Perm ps ∧ qs.Pairwise (fun p q => lexL p q = true) := by
  obtain ⟨qs, hq, rfl⟩ := perm_map_lift h1 ps rfl
  refine ⟨qs, rfl, hq, ?_⟩
  rw [List.pairwise_map] at h2
  have hn' : qs.Nodup := hq.nodup_iff.mpr hn
  refine (h2.and hn').imp fun {a b} h => ?_
  have e : dataLt (eL b).data (eL a).data = false := h.1
  rw [dataLt_eL] at e
  exact lexL_conn h.2 e
theorem out_eP {ps : List (List Int × (Int × Int))} {es : List NestedKey} (h1 : es.Perm (ps.map eP)) (h2 : es.Pairwise (fun d e => dataLt e.data d.data = false)) (hn : (ps.map (·.1)).Nodup) : ∃ qs : List (List Int × (Int × Int)), es = qs.map eP ∧ qs.Perm ps ∧ qs.Pairwise (fun p q => lexL p.1 q.1 = true) := by
  obtain ⟨qs, hq, rfl⟩ := perm_map_lift h1 ps rfl
  refine ⟨qs, rfl, hq, ?_⟩
  rw [List.pairwise_map] at h2
  have hn' : (qs.map (·.1)).Nodup := (hq.map _).nodup_iff.mpr hn
  have hn2 : qs.Pairwise (fun a b => a.1 ≠ b.1) := List.pairwise_map.mp hn'
  refine (h2.and hn2).imp fun {a b} h => ?_
  have e : dataLt (eP (b.1, b.2)).data (eP (a.1, a.2)).data = false := h.1
  rw [dataLt_eP _ _ (Ne.symm h.2)] at e
  exact lexL_conn h.2 e

/-! ### sizes, contents, patterns -/
def zL (ns : List Nat) : List Int := ns.map fun (n : Nat) => (n : Int)
def allSizes : List (List Nat) := [[2, 2, 2, 2, 2], [4, 4], [3, 3, 2], [2, 4, 2, 2], [4, 4, 4], [2, 2, 2], [2, 3, 2], [3, 2, 2], [2, 2], [3, 2], [2, 2, 3], [4], [2, 2, 2, 2], [2]]
def longer (acc : List (List Int)) (n : Nat) : List (List Int) := acc.flatMap fun c => (List.range n).map fun (w : Nat) => c ++ [(w : Int)]
def contents (ns : List Nat) : List (List Int) := ns.foldl longer [[]]
def prodN (ns : List Nat) : Nat := ns.foldl (· * ·) 1
def proj (p c : List Int) : List Int := p.map fun i => c.getD i.toNat 0
def allC (n : Nat) : List Int := (List.range n).map fun (i : Nat) => (i : Int)
def Asc (ns : List Int) : Prop := ∀ (i : Nat) (a b : Int), ns[i]? = some a → ns[i + 1]? = some b → a < b
/-- a pattern over n columns -/
def Pat (n : Nat) (p : List Int) : Prop := Asc p ∧ ∀ i ∈ p, 0 ≤ i ∧ i < n
/-- a content of these sizes -/
def okC (ns : List Nat) (c : List Int) : Bool := decide (c.length = ns.length) && (List.range ns.length).all fun i => decide (0 ≤ c.getD i 0) && decide (c.getD i 0 < (ns.getD i 0 : Int))
theorem contents_facts : ∀ ns ∈ allSizes, (contents ns).Nodup ∧ (contents ns).length = prodN ns ∧ prodN ns ≤ 64 ∧ 0 < prodN ns ∧ ((contents ns).all fun c => okC ns c) = true ∧ (ns.length ≤ 5 ∧ 1 ≤ ns.length) ∧ (ns.all fun n => decide (2 ≤ n) && decide (n ≤ 4)) = true := by decide +kernel
theorem contents_pre : ∀ ns ∈ allSizes, ∀ i, i ≤ 5 → (contents (ns.take i)).length ≤ 64 ∧ ((contents (ns.take i)).all fun c => decide (c.length ≤ 5)) = true := by decide +kernel
end FM
/-! The walks: checks and fractions. -/
namespace FM
open PySem PySem.Spec PyProof.Rows L2 Evl
section
variable {K : PySem.W.Frag} {σ : L2.St} {H H' : Hp} {ta tb tc te : TE} {x y z : V} {r r' : R2}
theorem ev_chain2 {b1 b2 : Bool} (ha : Ev ta σ H x) (hb : Ev tb σ H y) (hc : Ev tc σ H z) (h1 : RV r x y H (.bl b1)) (h2 : b1 = true → RV r' y z H (.bl b2)) : Ev (tChain r r' ta tb tc) σ H (.bl (b1 && b2)) := fun H1 a Q q =>
  ha H1 a _ fun H2 e2 => hb H2 (a.trans e2) _ fun H3 e3 => h1 H3 ((a.trans e2).trans e3) _ fun H4 e4 => ⟨b1, rfl, by
    cases b1 with
    | true =>
      refine hc H4 (((a.trans e2).trans e3).trans e4) _ fun H5 e5 => h2 rfl H5 ((((a.trans e2).trans e3).trans e4).trans e5) Q fun H6 e6 => ?_
      exact q H6 ((((e2.trans e3).trans e4).trans e5).trans e6)
    | false => exact q H4 ((e2.trans e3).trans e4)⟩
/-- the i-th of data that is an int -/
theorem ev_ixN {ds : List NestedKey} {i : Nat} {n : Int} (ha : EvD K ta σ H (.tup ds)) (hb : Ev tb σ H (.int (i : Int))) (hg : ds[i]? = some (.num n)) : Ev (tOp (rIxT K) ta tb) σ H (.int n) := (evd_ix ha hb hg).int
theorem ev_ix0 {d : NestedKey} {ds : List NestedKey} (ha : EvD K ta σ H (.tup (d :: ds))) (hb : Ev tb σ H (.int 0)) : EvD K (tOp (rIxT K) ta tb) σ H d := evd_ix (i := 0) ha hb rfl
theorem ev_ix1 {d e : NestedKey} {ds : List NestedKey} (ha : EvD K ta σ H (.tup (d :: e :: ds))) (hb : Ev tb σ H (.int 1)) : EvD K (tOp (rIxT K) ta tb) σ H e := evd_ix (i := 1) ha hb rfl
/-- a question of a bool that is known -/
theorem Ev.cast {b c : Bool} (h : Ev te σ H (.bl b)) (e : b = c) : Ev te σ H (.bl c) := e ▸ h
theorem Ev.castI {i j : Int} (h : Ev te σ H (.int i)) (e : i = j) : Ev te σ H (.int j) := e ▸ h
theorem EvP.b {P : Prop} {b : Bool} (h : EvP te σ H (IsV (.bl b))) : Ev te σ H (.bl b) := h.ev
end
section
variable {P : Program} {w : World} {K : PySem.W.Frag} {mg : Str → Option Value} {base : Heap} {aN aO : Addr} {tC tM : Tok}
theorem sc_is_integer : FnScope ["thing"] ["thing"] (defScope (top 8)) := ⟨rfl, rfl, rfl, by decide +kernel, rfl, by decide +kernel, by decide +kernel⟩
def fInteger : List NestedKey → VP → Prop := fun ds R => ∃ i, ds = [.num i] ∧ R = IsV (.bl true)
theorem fn_is_integer (D : Df K mg "is_integer" "is_integer" (top 8) ["thing"]) (T : Txt K mg aN aO tC tM) : Fn P w K mg base "is_integer" 1 ["thing"] (spD K fInteger) := by
  refine D.fn fun f fd F => ?_
  refine F.ok sc_is_integer (fun vs H Q E h => spD_len h (by rintro ds P ⟨i, rfl, rfl⟩; rfl)) (fun cdv A outer s H vs Q E hr h => ?_)
  obtain ⟨R, ⟨ds, hd, i, rfl, rfl⟩, k⟩ := h
  have hu64 := hr.units
  refine ⟨_, (pss_one (ps_ret (pe_and (pe_callB (r := rIsi K) call_isi (by rfl) T.isinstance boot_isinstance (pa_cons (pv 0) (pa_cons (pe_bltn (v := V.ty "int") (by rfl) T.int boot_int rfl) pa_nil))) (pe_one (pe_not (pe_callB (r := rIsi K) call_isi (by rfl) T.isinstance boot_isinstance (pa_cons (pv 0) (pa_cons (pe_bltn (v := V.ty "bool") (by rfl) T.bool boot_bool rfl) pa_nil)))))))), ?_⟩
  cases hd with
  | cons h1 h2 =>
    cases h2
    refine sp_ret (P := IsV (.bl true)) (evp_v ?_) fun v H1 e p => k v H1 e p
    exact ev_andV (ev_isiInt (evd_var rfl h1) ev_c) fun _ => ev_notV (ev_isiBool (evd_var rfl h1) ev_c)
theorem sc_is_within : FnScope ["thing", "least", "most"] ["thing", "least", "most"] (defScope (top 9)) := ⟨rfl, rfl, rfl, by decide +kernel, rfl, by decide +kernel, by decide +kernel⟩
def fWithin : List NestedKey → VP → Prop := fun ds R => ∃ i a b, ds = [.num i, .num a, .num b] ∧ a ≤ i ∧ i ≤ b ∧ R = IsV (.bl true)
theorem fn_is_within (D : Df K mg "is_within" "is_within" (top 9) ["thing", "least", "most"]) (T : Txt K mg aN aO tC tM) (G_is_integer : Fn P w K mg base "is_integer" 1 ["thing"] (spD K fInteger)) :
    Fn P w K mg base "is_within" 2 ["thing", "least", "most"] (spD K fWithin) := by
  refine D.fn fun f fd F => ?_
  refine F.ok sc_is_within (fun vs H Q E h => spD_len h (by rintro ds P ⟨i, a, b, rfl, _⟩; rfl)) (fun cdv A outer s H vs Q E hr h => ?_)
  obtain ⟨R, ⟨ds, hd, i, a, b, rfl, h1, h2, rfl⟩, k⟩ := h
  have hu64 := hr.units
  refine ⟨_, (pss_one (ps_ret (pe_and (pe_callF G_is_integer (hr.mono (by decide)) (pa_cons (pv 0) pa_nil)) (pe_one (pe_chain op_le op_le (pv 1) (pv 0) (pv 2)))))), ?_⟩
  cases hd with
  | cons d1 hd =>
    cases hd with
    | cons d2 hd =>
      cases hd with
      | cons d3 hd =>
        cases hd
        cases d1.num
        cases d2.num
        cases d3.num
        refine sp_ret (P := IsV (.bl true)) (evp_v ?_) fun v H1 e p => k v H1 e p
        refine Ev.cast (ev_andV (b := decide (a ≤ i) && decide (i ≤ b)) (evp_callD (ead_cons (evd_var rfl d1) ead_nil) ⟨i, rfl, rfl⟩).ev fun _ => ev_chain2 (ev_var rfl) (ev_var rfl) (ev_var rfl) rv_I0 fun _ => rv_I0) ?_
        rw [decide_eq_true h1, decide_eq_true h2]
        rfl
theorem sc_is_pair : FnScope ["thing"] ["thing"] (defScope (top 10)) := ⟨rfl, rfl, rfl, by decide +kernel, rfl, by decide +kernel, by decide +kernel⟩
def fPair : List NestedKey → VP → Prop := fun ds R => ∃ a b, ds = [.tup [a, b]] ∧ R = IsV (.bl true)
theorem fn_is_pair (D : Df K mg "is_pair" "is_pair" (top 10) ["thing"]) (T : Txt K mg aN aO tC tM) : Fn P w K mg base "is_pair" 1 ["thing"] (spD K fPair) := by
  refine D.fn fun f fd F => ?_
  refine F.ok sc_is_pair (fun vs H Q E h => spD_len h (by rintro ds P ⟨a, b, rfl, _⟩; rfl)) (fun cdv A outer s H vs Q E hr h => ?_)
  obtain ⟨R, ⟨ds, hd, a, b, rfl, rfl⟩, k⟩ := h
  have hu64 := hr.units
  refine ⟨_, (pss_one (ps_ret (pe_and (pe_callB (r := rIsi K) call_isi (by rfl) T.isinstance boot_isinstance (pa_cons (pv 0) (pa_cons (pe_bltn (v := V.ty "tuple") (by rfl) T.tuple boot_tuple rfl) pa_nil))) (pe_one (pe_cmpR op_eq (pe_callB (r := rLenS K) call_len_seq (by rfl) T.len boot_len (pa_cons (pv 0) pa_nil)) pe_int (nomark _)))))), ?_⟩
  cases hd with
  | cons h1 h2 =>
    cases h2
    refine sp_ret (P := IsV (.bl true)) (evp_v ?_) fun v H1 e p => k v H1 e p
    exact ev_andV (ev_isiTup (evd_var rfl h1) ev_c) fun _ => ev_op (ev_lenD (evd_var rfl h1)) ev_c (rv_eq rfl)
theorem sc_are_ascending : FnScope ["things", "at"] ["things"] (defScope (top 11)) := ⟨rfl, rfl, rfl, by decide +kernel, rfl, by decide +kernel, by decide +kernel⟩
def fAsc : List NestedKey → VP → Prop := fun ds R => ∃ ns, ds = [eL ns] ∧ Asc ns ∧ ns.length ≤ 1000 ∧ R = IsV (.bl true)
theorem get_num {ns : List Int} {i : Nat} {n : Int} (h : ns[i]? = some n) : (ns.map NestedKey.num)[i]? = some (.num n) := by rw [List.getElem?_map, h]; rfl
theorem fn_are_ascending (D : Df K mg "are_ascending" "are_ascending" (top 11) ["things"]) (T : Txt K mg aN aO tC tM) : Fn P w K mg base "are_ascending" 1 ["things"] (spD K fAsc) := by
  refine D.fn fun f fd F => ?_
  refine F.ok sc_are_ascending (fun vs H Q E h => spD_len h (by rintro ds P ⟨a, rfl, _⟩; rfl)) (fun cdv A outer s H vs Q E hr h => ?_)
  obtain ⟨R, ⟨ds, hd, ns, rfl, ha, hl, rfl⟩, k⟩ := h
  have hu64 := hr.units
  refine ⟨_, (pss_one (ps_ret (pe_callB (r := rAll K) (cr_all rfl) (by rfl) T.all boot_all (pa_cons (pe_lc (own := [(("at" : Str), 1)]) (g := gName 1) (tt := tYes) rfl sc_are_ascending.nd (pi_range2 (by rfl) T.range (pa_cons pe_int (pa_cons (pe_callB (r := rLenS K) call_len_seq (by rfl) T.len boot_len (pa_cons (pv 0) pa_nil)) pa_nil))) (blkOk_by (own := [(("at" : Str), 1)]) (N := ["things", "at"]) (sc := defScope (top 11)) (by decide +kernel)) (fun _ _ _ _ _ => (pg_name (i := 1) sc_are_ascending.nd rfl (.inl rfl))) (fun _ _ _ _ _ => pts_nil) (fun _ _ _ _ _ => (pe_cmpR op_lt (pe_ix (r := rIxT K) ix_tup (pv 0) (pe_op op_sub (pv 1) pe_int) (fun _ _ => rfl)) (pe_ix (r := rIxT K) ix_tup (pv 0) (pv 1) (fun _ _ => rfl)) (nomark _)))) pa_nil)))), ?_⟩
  cases hd with
  | @cons v1 _ _ _ h1 h2 =>
    cases h2
    refine sp_ret (P := IsV (.bl true)) (evp_v ?_) fun v H1 e p => k v H1 e p
    have hlen : Ev (tCB (rLenS K) (tCons (tVar 0) tNil)) (start ["things", "at"] [v1]) H (.int (ns.length : Int)) := by
      have := ev_lenD (evd_var (i := 0) (σ := start ["things", "at"] [v1]) rfl h1)
      rw [List.length_map] at this
      exact this
    refine ev_allTrue (evi_rng2 (lo := 1) (m := ns.length) (ea_cons ev_c (ea_cons hlen ea_nil)) (by omega) (by omega)) (by omega) fun i x H1 hi e hx => ?_
    cases hx
    refine gvg_name ⟨rfl, ?_⟩
    obtain ⟨a, hga⟩ : ∃ a, ns[i]? = some a := ⟨ns[i]'(by omega), List.getElem?_eq_getElem _⟩
    obtain ⟨b, hgb⟩ : ∃ b, ns[i + 1]? = some b := ⟨ns[i + 1]'(by omega), List.getElem?_eq_getElem _⟩
    have e0 : ((1 + i : Nat) : Int) - 1 = (i : Int) := by omega
    have e1 : ((1 + i : Nat) : Int) = ((i + 1 : Nat) : Int) := by omega
    refine Ev.cast (ev_op (ev_ixN (i := i) (evd_var rfl (h1.ex e)) (Ev.castI (ev_op (ev_var rfl) ev_c rv_I0) e0) (get_num hga)) (ev_ixN (i := i + 1) (evd_var rfl (h1.ex e)) (Ev.castI (ev_var rfl) e1) (get_num hgb)) rv_I0) ?_
    exact decide_eq_true (ha i a b hga hgb)
theorem sc_common_divisor : FnScope ["one", "other"] ["one", "other"] (defScope (top 15)) := ⟨rfl, rfl, rfl, by decide +kernel, rfl, by decide +kernel, by decide +kernel⟩
def fGcd : List NestedKey → VP → Prop := fun ds R => ∃ a b, ds = [.num a, .num b] ∧ R = IsV (.int (gI a b))
theorem abs_if (i : Int) : (if i < 0 then -i else i) = (i.natAbs : Int) := by
  split <;> omega
theorem ev_abs {σ : L2.St} {H : Hp} {te : TE} {i : Int} (h : Ev te σ H (.int i)) : Ev (tCB (fun xs H Q => ∃ i, xs = [V.int i] ∧ Q (.int (if i < 0 then -i else i)) H) (tCons te tNil)) σ H (.int (i.natAbs : Int)) := fun H1 a Q q =>
  h H1 a _ fun H2 e2 => ⟨i, rfl, by rw [abs_if]; exact q H2 e2⟩
theorem fn_common_divisor (D : Df K mg "common_divisor" "common_divisor" (top 15) ["one", "other"]) (T : Txt K mg aN aO tC tM) : Fn P w K mg base "common_divisor" 1 ["one", "other"] (spD K fGcd) := by
  refine D.fn fun f fd F => ?_
  refine F.ok sc_common_divisor (fun vs H Q E h => spD_len h (by rintro ds P ⟨a, b, rfl, _⟩; rfl)) (fun cdv A outer s H vs Q E hr h => ?_)
  obtain ⟨R, ⟨ds, hd, a, b, rfl, rfl⟩, k⟩ := h
  have hu64 := hr.units
  refine ⟨_, (pss_cons (ps_set (i := 0) sc_common_divisor.nd rfl (.inl rfl) (pe_callB call_abs (by rfl) T.abs boot_abs (pa_cons (pv 0) pa_nil)))
      (pss_cons (ps_set (i := 1) sc_common_divisor.nd rfl (.inl rfl) (pe_callB call_abs (by rfl) T.abs boot_abs (pa_cons (pv 1) pa_nil)))
      (pss_cons (ps_while PassesOwn.never (pt_cmpR op_gt (pv 1) pe_int (nomark _)) (pss_one (ps_par (i := 0) (j := 1) rfl sc_common_divisor.nd rfl rfl (by decide) rfl rfl (pa_cons (pv 1) (pa_cons (pe_op op_mod (pv 0) (pv 1)) pa_nil)) (by rfl))))
      (pss_one (ps_ret (pv 0)))))), ?_⟩
  cases hd with
  | cons d1 hd =>
    cases hd with
    | cons d2 hd =>
      cases hd
      cases d1.num
      cases d2.num
      refine q_asg (ev_abs (ev_var rfl)) fun H1 e1 => q_asg (ev_abs (ev_var rfl)) fun H2 e2 => ?_
      refine q_while (fun m σ H' => ∃ x y : Nat, σ = [some (.int (x : Int)), some (.int (y : Int))] ∧ m = y ∧ Nat.gcd x y = Nat.gcd a.natAbs b.natAbs ∧ Ex H H') b.natAbs ⟨a.natAbs, b.natAbs, rfl, rfl, rfl, e1.trans e2⟩ ?_
      rintro m σ H3 ⟨x, y, rfl, em, hg, e3⟩
      have em2 := em.symm
      subst em2
      refine ⟨decide (0 < y), et_test (Ev.cast (ev_op (ev_var rfl) ev_c rv_I0) (by rw [decide_eq_decide]; omega)), fun hy H4 e4 => ?_, fun hy H4 e4 => ?_⟩
      · have hy' : 0 < y := of_decide_eq_true hy
        refine ⟨fun σ' H' => ∃ x' y' : Nat, σ' = [some (.int (x' : Int)), some (.int (y' : Int))] ∧ y' < y ∧ Nat.gcd x' y' = Nat.gcd a.natAbs b.natAbs ∧ Ex H H', fun σ2 H2 ⟨x', y', h1, h2, h3, h4⟩ => ⟨y', h2, x', y', h1, rfl, h3, h4⟩, ?_⟩
        have hm : Ev (tOp (rI (fun _ j => 0 < j) fun i j => .int (i % j)) (tVar 0) (tVar 1)) [some (.int (x : Int)), some (.int (y : Int))] H4 (.int ((x % y : Nat) : Int)) := Ev.castI (ev_op (ev_var rfl) (ev_var rfl) (rv_I (by omega))) (by omega)
        refine (ea_cons (ev_var rfl) (ea_cons hm ea_nil)) H4 (Ex.refl H4) _ fun H5 e5 => ⟨_, _, rfl, y, x % y, rfl, Nat.mod_lt _ hy', ?_, (e3.trans e4).trans e5⟩
        rw [gI_step hy', hg]
      · have hy' : y = 0 := by
          have := of_decide_eq_false hy
          omega
        subst hy'
        refine s_ret (ev_var rfl) fun H5 e5 => k _ _ ((e3.trans e4).trans e5) ?_
        show V.int (x : Int) = V.int (gI a b)
        unfold gI
        rw [← hg, Nat.gcd_zero_right]
end
end FM
/-! The walks: fractions. -/
namespace FM
open PySem PySem.Spec PyProof.Rows L2 Evl
section
variable {K : PySem.W.Frag} {H : Hp} {vs : List V} {a b c : NestedKey}
theorem tva1 (h : TvA K H vs [a]) : ∃ v, vs = [v] ∧ Tv K H v a := by
  cases h with
  | cons h1 h2 =>
    cases h2
    exact ⟨_, rfl, h1⟩
theorem tva2 (h : TvA K H vs [a, b]) : ∃ v u, vs = [v, u] ∧ Tv K H v a ∧ Tv K H u b := by
  cases h with
  | cons h1 h2 =>
    obtain ⟨u, rfl, h3⟩ := tva1 h2
    exact ⟨_, _, rfl, h1, h3⟩
theorem tva3 (h : TvA K H vs [a, b, c]) : ∃ v u z, vs = [v, u, z] ∧ Tv K H v a ∧ Tv K H u b ∧ Tv K H z c := by
  cases h with
  | cons h1 h2 =>
    obtain ⟨u, z, rfl, h3, h4⟩ := tva2 h2
    exact ⟨_, _, _, rfl, h1, h3, h4⟩
end
section
variable {K : PySem.W.Frag} {σ : L2.St} {H H' : Hp} {ta tb tc te : TE}
theorem et_false_or {t u : TT} (h1 : EvT t σ H false) (h2 : EvT u σ H false) : EvT (tOr t u) σ H false := et_or h1 fun _ => h2
theorem et_nt {te : TE} (h : Ev te σ H (.bl true)) : EvT (tNot (tB te)) σ H false := et_is (et_not (et_B h)) rfl
end
section
variable {P : Program} {w : World} {K : PySem.W.Frag} {mg : Str → Option Value} {base : Heap} {aN aO : Addr} {tC tM : Tok}
theorem sc_made : FnScope ["top", "bottom", "divisor"] ["top", "bottom"] (defScope (top 16)) := ⟨rfl, rfl, rfl, by decide +kernel, rfl, by decide +kernel, by decide +kernel⟩
def fMade (K : PySem.W.Frag) : List NestedKey → VP → Prop := fun ds R => ∃ t b, ds = [.num t, .num b] ∧ 0 < b ∧ b < 1073741824 ∧ R = IsD K (eF (lw t b))
theorem fn_made (D : Df K mg "made" "made" (top 16) ["top", "bottom"]) (T : Txt K mg aN aO tC tM) (G_common_divisor : Fn P w K mg base "common_divisor" 1 ["one", "other"] (spD K fGcd)) : Fn P w K mg base "made" 2 ["top", "bottom"] (spD K (fMade K)) := by
  refine D.fn fun f fd F => ?_
  refine F.ok sc_made (fun vs H Q E h => spD_len h (by rintro ds P ⟨a, b, rfl, _⟩; rfl)) (fun cdv A outer s H vs Q E hr h => ?_)
  obtain ⟨R, ⟨ds, hd, t, b, rfl, h1, h2, rfl⟩, k⟩ := h
  have hu64 := hr.units
  refine ⟨_, (pss_cons (ps_set (i := 2) sc_made.nd rfl (.inl rfl) (pe_callF G_common_divisor (hr.mono (by decide)) (pa_cons (pv 0) (pa_cons (pv 1) pa_nil))))
      (pss_one (ps_ret (pe_tup (pa_cons (pe_op op_fdiv (pv 0) (pv 2)) (pa_cons (pe_op op_fdiv (pv 1) (pv 2)) pa_nil)))))), ?_⟩
  obtain ⟨v, u, rfl, d1, d2⟩ := tva2 hd
  cases d1.num
  cases d2.num
  have g1 := gI_pos (k := t) h1
  have g2 := gI_le (k := t) h1
  refine qp_asg (evp_callD (ead_cons (evd_var rfl d1) (ead_cons (evd_var rfl d2) ead_nil)) ⟨t, b, rfl, rfl⟩) fun v H1 e1 hv => ?_
  cases hv
  refine sp_ret (P := IsD K (eF (lw t b))) (evd_tup (ead_cons (evd_i ?_) (ead_cons (evd_i ?_) ead_nil)) (by show 2 ≤ 100000; decide)) fun v H2 e2 p => k v H2 (e1.trans e2) p
  · exact ev_op (ev_var rfl) (ev_var rfl) (rv_I ⟨g1, by omega⟩)
  · exact ev_op (ev_var rfl) (ev_var rfl) (rv_I ⟨g1, by omega⟩)
theorem sc_is_fraction : FnScope ["thing"] ["thing"] (defScope (top 17)) := ⟨rfl, rfl, rfl, by decide +kernel, rfl, by decide +kernel, by decide +kernel⟩
def fFraction : List NestedKey → VP → Prop := fun ds R => ∃ t b, ds = [eF (t, b)] ∧ 0 < b ∧ gI t b = 1 ∧ R = IsV (.bl true)
theorem fn_is_fraction (D : Df K mg "is_fraction" "is_fraction" (top 17) ["thing"]) (T : Txt K mg aN aO tC tM) (G_is_pair : Fn P w K mg base "is_pair" 1 ["thing"] (spD K fPair)) (G_is_integer : Fn P w K mg base "is_integer" 1 ["thing"] (spD K fInteger))
    (G_common_divisor : Fn P w K mg base "common_divisor" 1 ["one", "other"] (spD K fGcd)) : Fn P w K mg base "is_fraction" 2 ["thing"] (spD K fFraction) := by
  refine D.fn fun f fd F => ?_
  refine F.ok sc_is_fraction (fun vs H Q E h => spD_len h (by rintro ds P ⟨a, b, rfl, _⟩; rfl)) (fun cdv A outer s H vs Q E hr h => ?_)
  obtain ⟨R, ⟨ds, hd, t, b, rfl, h1, h2, rfl⟩, k⟩ := h
  have hu64 := hr.units
  refine ⟨_, (pss_cons (ps_if (pw_or (pt_not (pt_val (pe_callF G_is_pair (hr.mono (by decide)) (pa_cons (pv 0) pa_nil)))) (pw_or (pt_not (pt_val (pe_callF G_is_integer (hr.mono (by decide)) (pa_cons (pe_ix (r := rIxT K) ix_tup (pv 0) pe_int (fun _ _ => rfl)) pa_nil)))) (pw_or (pt_not (pt_val (pe_callF G_is_integer (hr.mono (by decide)) (pa_cons (pe_ix (r := rIxT K) ix_tup (pv 0) pe_int (fun _ _ => rfl)) pa_nil)))) (pw_or1 (pt_cmpR op_lt (pe_ix (r := rIxT K) ix_tup (pv 0) pe_int (fun _ _ => rfl)) pe_int (nomark _)))))).pt (pss_one (ps_ret pe_bl)) pss_nil)
      (pss_one (ps_ret (pe_cmpR op_eq (pe_callF G_common_divisor (hr.mono (by decide)) (pa_cons (pe_ix (r := rIxT K) ix_tup (pv 0) pe_int (fun _ _ => rfl)) (pa_cons (pe_ix (r := rIxT K) ix_tup (pv 0) pe_int (fun _ _ => rfl)) pa_nil))) pe_int (nomark _))))), ?_⟩
  obtain ⟨v, rfl, d1⟩ := tva1 hd
  have v0 : ∀ {H'}, Ex H H' → EvD K (tVar 0) (start ["thing"] [v]) H' (eF (t, b)) := fun e => evd_var rfl (d1.ex e)
  have x0 := ev_ix0 (v0 (Ex.refl H)) ev_c
  have x1 := ev_ix1 (v0 (Ex.refl H)) ev_c
  refine q_when (b := false) (et_false_or (et_nt (evp_callD (ead_cons (v0 (Ex.refl H)) ead_nil) ⟨_, _, rfl, rfl⟩).ev) (et_false_or (et_nt (evp_callD (ead_cons x0 ead_nil) ⟨_, rfl, rfl⟩).ev) (et_false_or (et_nt (evp_callD (ead_cons x1 ead_nil) ⟨_, rfl, rfl⟩).ev) (et_test (Ev.cast (ev_op x1.int ev_c rv_I0) (decide_eq_false (by omega))))))) (fun h => by cases h) fun _ H1 e1 => ?_
  refine sp_ret (P := IsV (.bl true)) (evp_v ?_) fun v H2 e2 p => k v H2 (e1.trans e2) p
  have y0 := ev_ix0 (v0 e1) ev_c
  have y1 := ev_ix1 (v0 e1) ev_c
  refine Ev.cast (ev_op (evp_callD (ead_cons y0 (ead_cons y1 ead_nil)) ⟨t, b, rfl, rfl⟩).ev ev_c (rv_eq rfl)) ?_
  rw [h2]
  rfl
theorem sc_is_share : FnScope ["thing"] ["thing"] (defScope (top 18)) := ⟨rfl, rfl, rfl, by decide +kernel, rfl, by decide +kernel, by decide +kernel⟩
def fShare : List NestedKey → VP → Prop := fun ds R => ∃ t b, ds = [eF (t, b)] ∧ 0 < b ∧ gI t b = 1 ∧ 0 ≤ t ∧ t ≤ b ∧ R = IsV (.bl true)
theorem fn_is_share (D : Df K mg "is_share" "is_share" (top 18) ["thing"]) (T : Txt K mg aN aO tC tM) (G_is_fraction : Fn P w K mg base "is_fraction" 2 ["thing"] (spD K fFraction)) : Fn P w K mg base "is_share" 3 ["thing"] (spD K fShare) := by
  refine D.fn fun f fd F => ?_
  refine F.ok sc_is_share (fun vs H Q E h => spD_len h (by rintro ds P ⟨a, b, rfl, _⟩; rfl)) (fun cdv A outer s H vs Q E hr h => ?_)
  obtain ⟨R, ⟨ds, hd, t, b, rfl, h1, h2, h3, h4, rfl⟩, k⟩ := h
  have hu64 := hr.units
  refine ⟨_, (pss_one (ps_ret (pe_and (pe_callF G_is_fraction (hr.mono (by decide)) (pa_cons (pv 0) pa_nil)) (pe_one (pe_chain op_le op_le pe_int (pe_ix (r := rIxT K) ix_tup (pv 0) pe_int (fun _ _ => rfl)) (pe_ix (r := rIxT K) ix_tup (pv 0) pe_int (fun _ _ => rfl))))))), ?_⟩
  obtain ⟨v, rfl, d1⟩ := tva1 hd
  have v0 : EvD K (tVar 0) (start ["thing"] [v]) H (eF (t, b)) := evd_var rfl d1
  have x0 := ev_ix0 v0 ev_c
  have x1 := ev_ix1 v0 ev_c
  refine sp_ret (P := IsV (.bl true)) (evp_v ?_) fun v H2 e2 p => k v H2 e2 p
  refine Ev.cast (ev_andV (b := decide (0 ≤ t) && decide (t ≤ b)) (evp_callD (ead_cons v0 ead_nil) ⟨t, b, rfl, h1, h2, rfl⟩).ev fun _ => ev_chain2 ev_c x0.int x1.int rv_I0 fun _ => rv_I0) ?_
  rw [decide_eq_true h3, decide_eq_true h4]
  rfl
theorem sc_plus : FnScope ["one", "other"] ["one", "other"] (defScope (top 19)) := ⟨rfl, rfl, rfl, by decide +kernel, rfl, by decide +kernel, by decide +kernel⟩
def fPlus (K : PySem.W.Frag) : List NestedKey → VP → Prop := fun ds R => ∃ k j B, ds = [eF (lw k B), eF (lw j B)] ∧ 0 < B ∧ B ≤ 12 ∧ R = IsD K (eF (lw (k + j) B))
theorem fn_plus (D : Df K mg "plus" "plus" (top 19) ["one", "other"]) (T : Txt K mg aN aO tC tM) (G_made : Fn P w K mg base "made" 2 ["top", "bottom"] (spD K (fMade K))) : Fn P w K mg base "plus" 3 ["one", "other"] (spD K (fPlus K)) := by
  refine D.fn fun f fd F => ?_
  refine F.ok sc_plus (fun vs H Q E h => spD_len h (by rintro ds P ⟨a, b, c, rfl, _⟩; rfl)) (fun cdv A outer s H vs Q E hr h => ?_)
  obtain ⟨R, ⟨ds, hd, m, j, B, rfl, h1, h2, rfl⟩, k⟩ := h
  have hu64 := hr.units
  refine ⟨_, (pss_cons (ps_if (pt_cmpR op_eq (pe_ix (r := rIxT K) ix_tup (pv 0) pe_int (fun _ _ => rfl)) (pe_ix (r := rIxT K) ix_tup (pv 1) pe_int (fun _ _ => rfl)) (nomark _)) (pss_one (ps_ret (pe_callF G_made (hr.mono (by decide)) (pa_cons (pe_op op_add (pe_ix (r := rIxT K) ix_tup (pv 0) pe_int (fun _ _ => rfl)) (pe_ix (r := rIxT K) ix_tup (pv 1) pe_int (fun _ _ => rfl))) (pa_cons (pe_ix (r := rIxT K) ix_tup (pv 0) pe_int (fun _ _ => rfl)) pa_nil))))) pss_nil)
      (pss_one (ps_ret (pe_callF G_made (hr.mono (by decide)) (pa_cons (pe_op op_add (pe_op op_mul (pe_ix (r := rIxT K) ix_tup (pv 0) pe_int (fun _ _ => rfl)) (pe_ix (r := rIxT K) ix_tup (pv 1) pe_int (fun _ _ => rfl))) (pe_op op_mul (pe_ix (r := rIxT K) ix_tup (pv 1) pe_int (fun _ _ => rfl)) (pe_ix (r := rIxT K) ix_tup (pv 0) pe_int (fun _ _ => rfl)))) (pa_cons (pe_op op_mul (pe_ix (r := rIxT K) ix_tup (pv 0) pe_int (fun _ _ => rfl)) (pe_ix (r := rIxT K) ix_tup (pv 1) pe_int (fun _ _ => rfl))) pa_nil)))))), ?_⟩
  obtain ⟨v, u, rfl, d1, d2⟩ := tva2 hd
  have v0 : ∀ {H'}, Ex H H' → EvD K (tVar 0) (start ["one", "other"] [v, u]) H' (eF (lw m B)) := fun e => evd_var rfl (d1.ex e)
  have v1 : ∀ {H'}, Ex H H' → EvD K (tVar 1) (start ["one", "other"] [v, u]) H' (eF (lw j B)) := fun e => evd_var rfl (d2.ex e)
  have x0 : ∀ {H'}, Ex H H' → Ev _ _ H' _ := fun e => (ev_ix0 (v0 e) ev_c).int
  have x1 : ∀ {H'}, Ex H H' → Ev _ _ H' _ := fun e => (ev_ix1 (v0 e) ev_c).int
  have y0 : ∀ {H'}, Ex H H' → Ev _ _ H' _ := fun e => (ev_ix0 (v1 e) ev_c).int
  have y1 : ∀ {H'}, Ex H H' → Ev _ _ H' _ := fun e => (ev_ix1 (v1 e) ev_c).int
  have p1 := lw_pos (k := m) h1
  have p2 := lw_pos (k := j) h1
  have q1 := lw_le (k := m) h1
  have q2 := lw_le (k := j) h1
  have q3 : (lw m B).2 * (lw j B).2 ≤ 12 * 12 := Int.mul_le_mul (by omega) (by omega) (by omega) (by omega)
  refine q_when (et_test (ev_op (x1 (Ex.refl H)) (y1 (Ex.refl H)) (rv_eq rfl))) (fun hb H1 e1 => ?_) fun _ H1 e1 => ?_
  · have he : (lw m B).2 = (lw j B).2 := V.int.inj (of_decide_eq_true hb)
    refine sp_ret (P := IsD K (eF (lw (m + j) B))) ?_ fun v H2 e2 p => k v H2 (e1.trans e2) p
    refine (evp_callD (ead_cons (evd_i (ev_op (x0 e1) (y0 e1) rv_I0)) (ead_cons (evd_i (x1 e1)) ead_nil)) ⟨_, _, rfl, p1, by omega, rfl⟩).imp fun v H2 _ p => ?_
    rw [← lw_add1 h1 he]
    exact p
  · refine sp_ret (P := IsD K (eF (lw (m + j) B))) ?_ fun v H2 e2 p => k v H2 (e1.trans e2) p
    refine (evp_callD (ead_cons (evd_i (ev_op (ev_op (x0 e1) (y1 e1) (rv_I (.inr ⟨by omega, by omega⟩))) (ev_op (y0 e1) (x1 e1) (rv_I (.inr ⟨by omega, by omega⟩))) rv_I0)) (ead_cons (evd_i (ev_op (x1 e1) (y1 e1) (rv_I (.inr ⟨by omega, by omega⟩)))) ead_nil)) ⟨_, _, rfl, Int.mul_pos p1 p2, by omega, rfl⟩).imp fun v H2 _ p => ?_
    rw [← lw_add2 h1]
    exact p
theorem sc_minus : FnScope ["one", "other"] ["one", "other"] (defScope (top 20)) := ⟨rfl, rfl, rfl, by decide +kernel, rfl, by decide +kernel, by decide +kernel⟩
def fMinus (K : PySem.W.Frag) : List NestedKey → VP → Prop := fun ds R => ∃ k j B, ds = [eF (lw k B), eF (lw j B)] ∧ 0 < B ∧ B ≤ 12 ∧ R = IsD K (eF (lw (k - j) B))
theorem fn_minus (D : Df K mg "minus" "minus" (top 20) ["one", "other"]) (T : Txt K mg aN aO tC tM) (G_plus : Fn P w K mg base "plus" 3 ["one", "other"] (spD K (fPlus K))) : Fn P w K mg base "minus" 4 ["one", "other"] (spD K (fMinus K)) := by
  refine D.fn fun f fd F => ?_
  refine F.ok sc_minus (fun vs H Q E h => spD_len h (by rintro ds P ⟨a, b, c, rfl, _⟩; rfl)) (fun cdv A outer s H vs Q E hr h => ?_)
  obtain ⟨R, ⟨ds, hd, m, j, B, rfl, h1, h2, rfl⟩, k⟩ := h
  have hu64 := hr.units
  refine ⟨_, (pss_one (ps_ret (pe_callF G_plus (hr.mono (by decide)) (pa_cons (pv 0) (pa_cons (pe_tup (pa_cons (pe_un un_neg (pe_ix (r := rIxT K) ix_tup (pv 1) pe_int (fun _ _ => rfl))) (pa_cons (pe_ix (r := rIxT K) ix_tup (pv 1) pe_int (fun _ _ => rfl)) pa_nil))) pa_nil))))), ?_⟩
  obtain ⟨v, u, rfl, d1, d2⟩ := tva2 hd
  have v0 : EvD K (tVar 0) (start ["one", "other"] [v, u]) H (eF (lw m B)) := evd_var rfl d1
  have v1 : EvD K (tVar 1) (start ["one", "other"] [v, u]) H (eF (lw j B)) := evd_var rfl d2
  have y0 := (ev_ix0 v1 ev_c).int
  have y1 := (ev_ix1 v1 ev_c).int
  obtain ⟨e1, e2⟩ := lw_neg j B
  refine sp_ret (P := IsD K (eF (lw (m - j) B))) ?_ fun v H2 e2 p => k v H2 e2 p
  have ht : EvD K _ (start ["one", "other"] [v, u]) H (eF (lw (-j) B)) := evd_tup (ead_cons (evd_i (Ev.castI (ev_un y0 ru_neg) e1)) (ead_cons (evd_i (Ev.castI y1 e2)) ead_nil)) (by show 2 ≤ 100000; decide)
  refine (evp_callD (ead_cons v0 (ead_cons ht ead_nil)) ⟨m, -j, B, rfl, h1, h2, rfl⟩)
theorem sc_is_below : FnScope ["one", "other"] ["one", "other"] (defScope (top 21)) := ⟨rfl, rfl, rfl, by decide +kernel, rfl, by decide +kernel, by decide +kernel⟩
def fBelow : List NestedKey → VP → Prop := fun ds R => ∃ k j B, ds = [eF (lw k B), eF (lw j B)] ∧ 0 < B ∧ B ≤ 12 ∧ R = IsV (.bl (decide (k < j)))
theorem fn_is_below (D : Df K mg "is_below" "is_below" (top 21) ["one", "other"]) (T : Txt K mg aN aO tC tM) : Fn P w K mg base "is_below" 1 ["one", "other"] (spD K fBelow) := by
  refine D.fn fun f fd F => ?_
  refine F.ok sc_is_below (fun vs H Q E h => spD_len h (by rintro ds P ⟨a, b, c, rfl, _⟩; rfl)) (fun cdv A outer s H vs Q E hr h => ?_)
  obtain ⟨R, ⟨ds, hd, m, j, B, rfl, h1, h2, rfl⟩, k⟩ := h
  have hu64 := hr.units
  refine ⟨_, (pss_one (ps_ret (pe_cmpR op_lt (pe_op op_mul (pe_ix (r := rIxT K) ix_tup (pv 0) pe_int (fun _ _ => rfl)) (pe_ix (r := rIxT K) ix_tup (pv 1) pe_int (fun _ _ => rfl))) (pe_op op_mul (pe_ix (r := rIxT K) ix_tup (pv 1) pe_int (fun _ _ => rfl)) (pe_ix (r := rIxT K) ix_tup (pv 0) pe_int (fun _ _ => rfl))) (nomark _)))), ?_⟩
  obtain ⟨v, u, rfl, d1, d2⟩ := tva2 hd
  have v0 : EvD K (tVar 0) (start ["one", "other"] [v, u]) H (eF (lw m B)) := evd_var rfl d1
  have v1 : EvD K (tVar 1) (start ["one", "other"] [v, u]) H (eF (lw j B)) := evd_var rfl d2
  have x0 := (ev_ix0 v0 ev_c).int
  have x1 := (ev_ix1 v0 ev_c).int
  have y0 := (ev_ix0 v1 ev_c).int
  have y1 := (ev_ix1 v1 ev_c).int
  have p1 := lw_pos (k := m) h1
  have p2 := lw_pos (k := j) h1
  have q1 := lw_le (k := m) h1
  have q2 := lw_le (k := j) h1
  refine sp_ret (P := IsV (.bl (decide (m < j)))) (evp_v ?_) fun v H2 e2 p => k v H2 e2 p
  refine Ev.cast (ev_op (ev_op x0 y1 (rv_I (.inr ⟨by omega, by omega⟩))) (ev_op y0 x1 (rv_I (.inr ⟨by omega, by omega⟩))) rv_I0) ?_
  rw [decide_eq_decide]
  exact lw_lt h1
theorem sc_total : FnScope ["row", "found", "item"] ["row"] (defScope (top 22)) := ⟨rfl, rfl, rfl, by decide +kernel, rfl, by decide +kernel, by decide +kernel⟩
/-- a list of fractions, their bottom B -/
def fTotal (K : PySem.W.Frag) : List V → Hp → VP → Prop := fun vs H R => ∃ (a : Addr) (xs : List V) (ks : List Int) (B : Int), vs = [.ref a] ∧ H a = some (.lst xs) ∧ TvA K H xs (ks.map fun k => eF (lw k B)) ∧ 0 < B ∧ B ≤ 12 ∧ R = IsD K (eF (lw ks.sum B))
theorem fn_total (D : Df K mg "total" "total" (top 22) ["row"]) (T : Txt K mg aN aO tC tM) (G_plus : Fn P w K mg base "plus" 3 ["one", "other"] (spD K (fPlus K))) : Fn P w K mg base "total" 4 ["row"] (spG (fTotal K)) := by
  refine D.fn fun f fd F => ?_
  refine F.ok sc_total (fun vs H Q E h => by obtain ⟨R, ⟨a, xs, ks, B, rfl, _⟩, _⟩ := h; rfl) (fun cdv A outer s H vs Q E hr h => ?_)
  obtain ⟨R, ⟨a, xs, ks, B, rfl, ha, hd, h1, h2, rfl⟩, k⟩ := h
  have hu64 := hr.units
  refine ⟨_, (pss_cons (ps_set (i := 1) sc_total.nd rfl (.inl rfl) (pe_glob (v := V.ref aN) (by rfl) T.gNOTHING rfl))
      (pss_cons (ps_for PassesOwn.never rfl (pi_list (pv 0)) (pg_name (i := 2) sc_total.nd rfl (.inl rfl))
        (pss_one (ps_set (i := 1) sc_total.nd rfl (.inl rfl) (pe_callF G_plus (hr.mono (by decide)) (pa_cons (pv 1) (pa_cons (pv 2) pa_nil))))))
      (pss_one (ps_ret (pv 1))))), ?_⟩
  refine qp_asg (P := IsD K (eF (lw 0 B))) (.of ev_c fun H2 _ => by rw [lw_zero h1]; exact T.tN H2) fun v H1 e1 hv => ?_
  refine q_forL (a := a) (xs := xs) (ev_var rfl) (sq_of (e1 _ _ ha)) (fun i σ H' => ∃ v u, σ = [some (.ref a), some v, u] ∧ Ex H H' ∧ Tv K H' v (eF (lw (ks.take i).sum B))) (fun H2 e2 => ⟨v, none, rfl, e1.trans e2, ?_⟩) (fun i σ' H' _ ⟨v, u, _, e, _⟩ => sq_of (e _ _ ha)) ?_ ?_
  · exact Tv.ex hv e2
  · rintro i x σ' H3 hi ⟨v, u, rfl, e, hv⟩
    obtain ⟨d, hd', tv⟩ := hd.get hi
    obtain ⟨kk, hk1, hk2⟩ : ∃ kk, ks[i]? = some kk ∧ d = eF (lw kk B) := by
      rw [List.getElem?_map] at hd'
      cases hk : ks[i]? with
      | none => rw [hk] at hd'; cases hd'
      | some kk => rw [hk] at hd'; exact ⟨kk, rfl, (Option.some.inj hd').symm⟩
    subst hk2
    refine sp_asg (evp_callD (ead_cons (evd_var rfl hv) (ead_cons (evd_var rfl (tv.ex e)) ead_nil)) ⟨_, _, B, rfl, h1, h2, rfl⟩) fun v' H4 e4 hv' => ⟨v', some x, rfl, e.trans e4, ?_⟩
    have : (ks.take (i + 1)).sum = (ks.take i).sum + kk := by
      rw [List.take_add_one, hk1]
      simp
    rw [this]
    exact hv'
  · rintro σ' H3 ⟨v, u, rfl, e, hv⟩
    refine sp_ret (P := IsD K (eF (lw ks.sum B))) ?_ fun v H4 e4 p => k v H4 (e.trans e4) p
    have hl : xs.length = ks.length := by
      rw [hd.length, List.length_map]
    rw [hl, List.take_length] at hv
    exact evd_var rfl hv
end
end FM
/-! Lists made over two iterables. -/
namespace FM
open PySem PySem.Spec PyProof.Rows L2 Evl
section
variable {K : PySem.W.Frag} {σ : L2.St} {H H' : Hp} {te : TE}
theorem flat_take {α β : Type} (as : List α) (f : α → List β) {i : Nat} {a : α} (h : as[i]? = some a) : (as.take (i + 1)).flatMap f = (as.take i).flatMap f ++ f a := by
  rw [List.take_add_one, h]
  simp
theorem flat_len {α β : Type} (as : List α) (f : α → List β) (i : Nat) : ((as.take i).flatMap f).length ≤ (as.flatMap f).length := by
  have : as.flatMap f = (as.take i).flatMap f ++ (as.drop i).flatMap f := by rw [← List.flatMap_append, List.take_append_drop]
  rw [this, List.length_append]
  omega
theorem map_take1 {β γ : Type} (bs : List β) (g : β → γ) {j : Nat} {b : β} (h : bs[j]? = some b) : (bs.take (j + 1)).map g = (bs.take j).map g ++ [g b] := by
  rw [List.take_add_one, h]
  simp
/-- [e for a in list for b in range(n)] -/
theorem evp_lc2R {α : Type} (as : List α) (n : α → Nat) (h : α → Nat → NestedKey) {wi : TI} {tA : TA} {g : TG} {jx : Nat} {vs vs1 : List Nat} {Y : Nat → VP} (hi : EvI wi σ H as.length Y) (hz : (as.flatMap fun a => (List.range (n a)).map (h a)).length ≤ 40000) (hn : ∀ a ∈ as, n a ≤ 100000)
    (hs : ∀ i a x H1, as[i]? = some a → Ex H H1 → Y i x H1 → GvG g x (wipe σ vs) H1 fun σ2 H2 => wipe σ2 vs = wipe σ vs ∧ EvA tA σ2 H2 [.int (n a : Int)] ∧
      ∀ j H3, j < n a → Kp H2 H3 → wipe ((wipe σ2 vs1).set jx (some (.int (j : Int)))) vs1 = wipe σ2 vs1 ∧ EvD K te ((wipe σ2 vs1).set jx (some (.int (j : Int)))) H3 (h a j)) :
    EvP (tLc2 wi g tYes (iRng1 tA) (gName jx) tYes te vs vs1) σ H (IsLD K (as.flatMap fun a => (List.range (n a)).map (h a))) := fun H1 a Q q => by
  refine hi H1 a _ fun J H2 e2 ⟨G, Yd, wk, hG, hY⟩ D hD => ?_
  generalize hf : (fun a => (List.range (n a)).map (h a)) = fl at *
  refine ⟨fun i m H' => m = as.length - i ∧ i ≤ as.length ∧ Ex H2 H' ∧ ∃ ys, H' D = some (.lst ys) ∧ TvA K H' ys ((as.take i).flatMap fl), ⟨as.length, by simp, Nat.zero_le _, Ex.new hD, [], upd_same, .nil⟩, ?_⟩
  rintro i m H3 ⟨rfl, hi', p1, ys, p2, p3⟩
  by_cases hlt : i < as.length
  · refine .inr ⟨wk.goes i H3 hlt (hG H3 p1), fun H' => Ex H2 H' ∧ ∃ ys, H' D = some (.lst ys) ∧ TvA K H' ys ((as.take (i + 1)).flatMap fl), fun H' p' => ⟨as.length - (i + 1), by omega, rfl, hlt, p'⟩, fun x H4 y => ?_⟩
    obtain ⟨y1, y2⟩ := hY i H3 x H4 hlt p1 (wk.yields i H3 x H4 hlt (hG H3 p1) y)
    have ha : as[i]? = some as[i] := List.getElem?_eq_getElem hlt
    have ham : as[i] ∈ as := List.getElem_mem hlt
    generalize as[i] = ai at ha ham
    have hna := hn ai ham
    refine hs i ai x H4 ha (((a.trans e2).trans p1).trans y1) y2 _ fun σ2 H5 e5 ⟨hw, hA, hs1⟩ => ⟨hw, ?_⟩
    unfold tYes
    dsimp only
    rw [if_pos rfl]
    refine hA H5 (Ex.refl H5) _ fun H6 e6 => ⟨(n ai : Int), rfl, by omega, by omega, ?_⟩
    rw [Int.toNat_natCast]
    have x6 : Ex H3 H6 := (y1.trans e5).trans e6
    refine ⟨fun j m H' => m = n ai - j ∧ j ≤ n ai ∧ Ex H2 H' ∧ Kp H6 H' ∧ ∃ ys, H' D = some (.lst ys) ∧ TvA K H' ys ((as.take i).flatMap fl ++ ((List.range (n ai)).take j).map (h ai)), ⟨n ai, by simp, Nat.zero_le _, p1.trans x6, Kp.refl _, ys, x6 _ _ p2, by simpa using p3.ex x6⟩, ?_⟩
    rintro j m H7 ⟨rfl, hj, r1, r2, zs, r3, r4⟩
    by_cases hjl : j < n ai
    · refine .inr ⟨hjl, fun H' => Ex H2 H' ∧ Kp H6 H' ∧ ∃ ys, H' D = some (.lst ys) ∧ TvA K H' ys ((as.take i).flatMap fl ++ ((List.range (n ai)).take (j + 1)).map (h ai)), fun H' p' => ⟨n ai - (j + 1), by omega, rfl, hjl, p'⟩, fun y H8 hy => ?_⟩
      obtain ⟨rfl, hy⟩ := hy
      have ey : y = V.int (j : Int) := by
        rw [hy]
        show V.int (0 + (j : Int)) = V.int (j : Int)
        rw [Int.zero_add]
      subst ey
      obtain ⟨w1, he⟩ := hs1 j H8 hjl ((Kp.ex e6).trans r2)
      refine ⟨w1, ?_⟩
      rw [if_pos rfl]
      refine he H8 (Ex.refl H8) _ fun v H9 e9 pv => ⟨zs, e9 _ _ r3, ?_, ?_⟩
      · refine sz_lt ?_
        have l1 := r4.length
        have l2 := flat_len as fl (i + 1)
        rw [flat_take as fl ha, List.length_append] at l2
        have l3 : (fl ai).length = n ai := by rw [← hf, List.length_map, List.length_range]
        rw [List.length_append, List.length_map, List.length_take, List.length_range] at l1
        omega
      · have k9 : Kp H9 (upd H9 D (.lst (zs ++ [v]))) := Kp.upd (nrd_lst (e9 _ _ r3))
        refine ⟨Ex.mut (r1.trans e9) hD, (r2.trans (Kp.ex e9)).trans k9, _, upd_same, ?_⟩
        rw [map_take1 (List.range (n ai)) (h ai) (b := j) (by simp [hjl]), ← List.append_assoc]
        exact TvA.append ((r4.ex e9).kp k9) (.cons (Tv.kp k9 pv) .nil)
    · have ej : j = n ai := by omega
      subst ej
      refine .inl ⟨Nat.le_refl _, r1, zs, r3, ?_⟩
      rw [flat_take as fl ha]
      have : (List.range (n ai)).take (n ai) = List.range (n ai) := List.take_of_length_le (by rw [List.length_range]; exact Nat.le_refl _)
      rw [this] at r4
      rw [← hf]
      rw [← hf] at r4
      exact r4
  · have e : i = as.length := by omega
    subst e
    refine .inl ⟨wk.stops H3 (hG H3 p1), q _ H3 (e2.trans p1) ⟨D, ys, rfl, p2, ?_⟩⟩
    rw [List.take_length] at p3
    exact p3
end
end FM
/-! The walks: rows. -/
namespace FM
open PySem PySem.Spec PyProof.Rows L2 Evl
theorem zL_get {ns : List Nat} {i n : Nat} (h : ns[i]? = some n) : (zL ns)[i]? = some (n : Int) := by unfold zL; rw [List.getElem?_map, h]; rfl
theorem zL_len (ns : List Nat) : (zL ns).length = ns.length := by unfold zL; rw [List.length_map]
theorem map_len {α β : Type} {f : α → β} {l : List α} {n : Nat} (h : l.length = n) : (l.map f).length = n := by rw [List.length_map, h]
section
variable {P : Program} {w : World} {K : PySem.W.Frag} {mg : Str → Option Value} {base : Heap} {aN aO : Addr} {tC tM : Tok}
theorem sc_many_contents : FnScope ["sizes", "found", "size"] ["sizes"] (defScope (top 28)) := ⟨rfl, rfl, rfl, by decide +kernel, rfl, by decide +kernel, by decide +kernel⟩
def fMany : List NestedKey → VP → Prop := fun ds R => ∃ ns, ds = [eL (zL ns)] ∧ ns ∈ allSizes ∧ R = IsV (.int (prodN ns))
theorem prod_take {ns : List Nat} {i n : Nat} (h : ns[i]? = some n) : prodN (ns.take (i + 1)) = prodN (ns.take i) * n := by
  unfold prodN
  rw [List.take_add_one, h, List.foldl_append]
  rfl
theorem size_le {ns : List Nat} (hs : ns ∈ allSizes) : ∀ n ∈ ns, 2 ≤ n ∧ n ≤ 4 := fun n hn => by
  have := (contents_facts ns hs).2.2.2.2.2.2
  rw [List.all_eq_true] at this
  simpa using this n hn
theorem size_len {ns : List Nat} (hs : ns ∈ allSizes) : ns.length ≤ 5 ∧ 1 ≤ ns.length := (contents_facts ns hs).2.2.2.2.2.1
theorem fn_many_contents (D : Df K mg "many_contents" "many_contents" (top 28) ["sizes"]) (T : Txt K mg aN aO tC tM) : Fn P w K mg base "many_contents" 1 ["sizes"] (spD K fMany) := by
  refine D.fn fun f fd F => ?_
  refine F.ok sc_many_contents (fun vs H Q E h => spD_len h (by rintro ds P ⟨a, rfl, _⟩; rfl)) (fun cdv A outer s H vs Q E hr h => ?_)
  obtain ⟨R, ⟨ds, hd, ns, rfl, hs, rfl⟩, k⟩ := h
  have hu64 := hr.units
  refine ⟨_, (pss_cons (ps_set (i := 1) sc_many_contents.nd rfl (.inl rfl) pe_int)
      (pss_cons (ps_for PassesOwn.never rfl (pi_tup (pv 0)) (pg_name (i := 2) sc_many_contents.nd rfl (.inl rfl))
        (pss_one (ps_set (i := 1) sc_many_contents.nd rfl (.inl rfl) (pe_op op_mul (pv 1) (pv 2)))))
      (pss_one (ps_ret (pv 1))))), ?_⟩
  obtain ⟨v, rfl, d1⟩ := tva1 hd
  obtain ⟨a, rfl, ha⟩ := d1.intsI
  refine q_asg ev_c fun H1 e1 => ?_
  refine q_forT (a := a) (xs := (zL ns).map V.int) (ev_var rfl) (ex_t e1 ha) (fun i σ H' => ∃ u, σ = [some (.ref a), some (.int (prodN (ns.take i))), u] ∧ Ex H H') (fun H2 e2 => ⟨none, rfl, e1.trans e2⟩) (fun i σ' H' _ ⟨u, _, e⟩ => ex_t e ha) ?_ ?_
  · rintro i x σ' H3 hi ⟨u, rfl, e⟩
    rw [List.getElem?_map] at hi
    obtain ⟨z, hz, rfl⟩ := Option.map_eq_some_iff.mp hi
    unfold zL at hz
    rw [List.getElem?_map] at hz
    obtain ⟨n, hn, rfl⟩ := Option.map_eq_some_iff.mp hz
    have := size_le hs n (List.mem_of_getElem? hn)
    refine s_asg (Ev.castI (ev_op (ev_var rfl) (ev_var rfl) (rv_I (.inr ⟨by omega, by omega⟩))) ?_) fun H4 e4 => ⟨some (.int (n : Int)), rfl, e.trans e4⟩
    rw [prod_take hn, Int.natCast_mul]
  · rintro σ' H3 ⟨u, rfl, e⟩
    refine s_ret (ev_var rfl) fun H4 e4 => k _ _ (e.trans e4) ?_
    have : ((zL ns).map V.int).length = ns.length := by rw [List.length_map, zL_len]
    rw [this, List.take_length]
    rfl
theorem sc_are_sizes : FnScope ["thing", "size"] ["thing"] (defScope (top 26)) := ⟨rfl, rfl, rfl, by decide +kernel, rfl, by decide +kernel, by decide +kernel⟩
def fSizes : List NestedKey → VP → Prop := fun ds R => ∃ ns, ds = [eL (zL ns)] ∧ ns ∈ allSizes ∧ R = IsV (.bl true)
theorem fn_are_sizes (D : Df K mg "are_sizes" "are_sizes" (top 26) ["thing"]) (T : Txt K mg aN aO tC tM) (G_is_within : Fn P w K mg base "is_within" 2 ["thing", "least", "most"] (spD K fWithin)) (G_many_contents : Fn P w K mg base "many_contents" 1 ["sizes"] (spD K fMany)) :
    Fn P w K mg base "are_sizes" 3 ["thing"] (spD K fSizes) := by
  refine D.fn fun f fd F => ?_
  refine F.ok sc_are_sizes (fun vs H Q E h => spD_len h (by rintro ds P ⟨a, rfl, _⟩; rfl)) (fun cdv A outer s H vs Q E hr h => ?_)
  obtain ⟨R, ⟨ds, hd, ns, rfl, hs, rfl⟩, k⟩ := h
  have hu64 := hr.units
  refine ⟨_, (pss_cons (ps_if (pw_or (pt_not (pt_val (pe_callB (r := rIsi K) call_isi (by rfl) T.isinstance boot_isinstance (pa_cons (pv 0) (pa_cons (pe_bltn (v := V.ty "tuple") (by rfl) T.tuple boot_tuple rfl) pa_nil))))) (pw_or1 (pt_not (pt_chain op_le op_le pe_int (pe_callB (r := rLenS K) call_len_seq (by rfl) T.len boot_len (pa_cons (pv 0) pa_nil)) (pe_glob (v := V.int 5) (by rfl) T.gMOST_COLUMNS ⟨_, rfl⟩))))).pt (pss_one (ps_ret pe_bl)) pss_nil)
      (pss_one (ps_ret (pe_and (pe_callB (r := rAll K) (cr_all rfl) (by rfl) T.all boot_all (pa_cons (pe_lc (own := [(("size" : Str), 1)]) (g := gName 1) (tt := tYes) rfl sc_are_sizes.nd (pi_tup (pv 0)) (blkOk_by (own := [(("size" : Str), 1)]) (N := ["thing", "size"]) (sc := defScope (top 26)) (by decide +kernel)) (fun _ _ _ _ _ => (pg_name (i := 1) sc_are_sizes.nd rfl (.inl rfl))) (fun _ _ _ _ _ => pts_nil) (fun _ _ _ _ _ => (pe_callF G_is_within (hr.mono (by decide)) (pa_cons (pv 1) (pa_cons pe_int (pa_cons pe_int pa_nil)))))) pa_nil)) (pe_one (pe_cmpR op_le (pe_callF G_many_contents (hr.mono (by decide)) (pa_cons (pv 0) pa_nil)) (pe_glob (v := V.int 256) (by rfl) T.gMOST_CONTENTS ⟨_, rfl⟩) (nomark _))))))), ?_⟩
  obtain ⟨v, rfl, d1⟩ := tva1 hd
  have hl := size_len hs
  have hf := contents_facts ns hs
  have v0 : ∀ {H'}, Ex H H' → EvD K (tVar 0) (start ["thing", "size"] [v]) H' (eL (zL ns)) := fun e => evd_var rfl (d1.ex e)
  have hlen : ((zL ns).map NestedKey.num).length = ns.length := map_len (zL_len ns)
  refine q_when (b := false) (et_false_or (et_nt (ev_isiTup (v0 (Ex.refl H)) ev_c)) (et_is (et_not (et_test (Ev.cast (c := true) (ev_chain2 ev_c (ev_lenD (v0 (Ex.refl H))) ev_c rv_I0 fun _ => rv_I0) ?_))) rfl)) (fun h => by cases h) fun _ H1 e1 => ?_
  · rw [hlen, decide_eq_true (by omega), decide_eq_true (by omega)]
    rfl
  refine sp_ret (P := IsV (.bl true)) (evp_v ?_) fun v H2 e2 p => k v H2 (e1.trans e2) p
  refine Ev.cast (c := true) (ev_andV (a := true) (ev_allTrue (evi_tupD (v0 e1)) (by rw [hlen]; omega) fun i x H2 hi e2 ⟨d, hd', tv⟩ => gvg_name ⟨rfl, ?_⟩) fun _ => ev_op (evp_callD (ead_cons (v0 e1) ead_nil) ⟨ns, rfl, hs, rfl⟩).ev ev_c rv_I0) ?_
  · rw [List.getElem?_map] at hd'
    obtain ⟨z, hz, rfl⟩ := Option.map_eq_some_iff.mp hd'
    unfold zL at hz
    rw [List.getElem?_map] at hz
    obtain ⟨n, hn, rfl⟩ := Option.map_eq_some_iff.mp hz
    have := size_le hs n (List.mem_of_getElem? hn)
    exact (evp_callD (ead_cons (evd_var rfl tv) (ead_cons (evd_i ev_c) (ead_cons (evd_i ev_c) ead_nil))) ⟨n, 2, 4, rfl, by omega, by omega, rfl⟩).ev
  · rw [decide_eq_true (by omega)]
    rfl
theorem sc_check_sizes : FnScope ["thing"] ["thing"] (defScope (top 27)) := ⟨rfl, rfl, rfl, by decide +kernel, rfl, by decide +kernel, by decide +kernel⟩
def fCheck : List NestedKey → VP → Prop := fun ds R => ∃ ns, ds = [eL (zL ns)] ∧ ns ∈ allSizes ∧ R = IsV .non
theorem fn_check_sizes (D : Df K mg "check_sizes" "check_sizes" (top 27) ["thing"]) (T : Txt K mg aN aO tC tM) (G_are_sizes : Fn P w K mg base "are_sizes" 3 ["thing"] (spD K fSizes)) : Fn P w K mg base "check_sizes" 4 ["thing"] (spD K fCheck) := by
  refine D.fn fun f fd F => ?_
  refine F.ok sc_check_sizes (fun vs H Q E h => spD_len h (by rintro ds P ⟨a, rfl, _⟩; rfl)) (fun cdv A outer s H vs Q E hr h => ?_)
  obtain ⟨R, ⟨ds, hd, ns, rfl, hs, rfl⟩, k⟩ := h
  have hu64 := hr.units
  refine ⟨_, (pss_one (ps_if (pt_not (pt_val (pe_callF G_are_sizes (hr.mono (by decide)) (pa_cons (pv 0) pa_nil)))) (pss_one ps_never) pss_nil)), ?_⟩
  obtain ⟨v, rfl, d1⟩ := tva1 hd
  refine s_when (b := false) (et_nt (evp_callD (ead_cons (evd_var rfl d1) ead_nil) ⟨ns, rfl, hs, rfl⟩).ev) (fun h => by cases h) fun _ H1 e1 => ?_
  exact k _ H1 e1 rfl
theorem sc_raw_contents : FnScope ["sizes", "found", "size", "content", "worth"] ["sizes"] (defScope (top 29)) := ⟨rfl, rfl, rfl, by decide +kernel, rfl, by decide +kernel, by decide +kernel⟩
def fContents (K : PySem.W.Frag) : List NestedKey → VP → Prop := fun ds R => ∃ ns, ds = [eL (zL ns)] ∧ ns ∈ allSizes ∧ R = IsLD K ((contents ns).map eL)
theorem contents_take {ns : List Nat} {i n : Nat} (h : ns[i]? = some n) : contents (ns.take (i + 1)) = longer (contents (ns.take i)) n := by
  unfold contents
  rw [List.take_add_one, h, List.foldl_append]
  rfl
theorem longer_map (acc : List (List Int)) (n : Nat) : (longer acc n).map eL = acc.flatMap fun c => (List.range n).map fun (j : Nat) => NestedKey.tup (c.map NestedKey.num ++ [.num (j : Int)]) := by
  unfold longer
  rw [List.map_flatMap]
  congr 1
  funext c
  rw [List.map_map]
  refine List.map_congr_left fun j _ => ?_
  show NestedKey.tup ((c ++ [(j : Int)]).map NestedKey.num) = _
  rw [List.map_append]
  rfl
theorem fn_raw_contents (D : Df K mg "raw_contents" "raw_contents" (top 29) ["sizes"]) (T : Txt K mg aN aO tC tM) : Fn P w K mg base "raw_contents" 1 ["sizes"] (spD K (fContents K)) := by
  refine D.fn fun f fd F => ?_
  refine F.ok sc_raw_contents (fun vs H Q E h => spD_len h (by rintro ds P ⟨a, rfl, _⟩; rfl)) (fun cdv A outer s H vs Q E hr h => ?_)
  obtain ⟨R, ⟨ds, hd, ns, rfl, hs, rfl⟩, k⟩ := h
  have hu64 := hr.units
  refine ⟨_, (pss_cons (ps_set (i := 1) sc_raw_contents.nd rfl (.inl rfl) (pe_lst (pa_cons (pe_tup pa_nil) pa_nil)))
      (pss_cons (ps_for PassesOwn.never rfl (pi_tup (pv 0)) (pg_name (i := 2) sc_raw_contents.nd rfl (.inr rfl))
        (pss_one (ps_setLc2 (i := 1) (own := [(("content" : Str), 3), (("worth" : Str), 4)]) (vs1 := [4]) (g := gName 3) (g1 := gName 4) (tt := tYes) (tt1 := tYes) rfl sc_raw_contents.nd rfl rfl (sw_true rfl rfl rfl rfl) (pi_list (pv 1)) (blkOk_by (own := [(("content" : Str), 3), (("worth" : Str), 4)]) (N := ["sizes", "found", "size", "content", "worth"]) (sc := defScope (top 29)) (by decide +kernel)) (by decide) (fun _ _ _ _ _ => (pg_name (i := 3) sc_raw_contents.nd rfl (.inl rfl))) (fun _ _ _ _ _ => pts_nil) (fun _ _ _ _ _ => (pi_range1 (by rfl) T.range (pa_cons (pv 2) pa_nil))) (fun _ _ _ _ _ => (pg_name (i := 4) sc_raw_contents.nd rfl (.inl rfl))) (fun _ _ _ _ _ => pts_nil) (fun _ _ _ _ _ => (pe_op (r := rCatA K) op_catA (pv 3) (pe_tup (pa_cons (pv 4) pa_nil)))))))
      (pss_one (ps_ret (pv 1))))), ?_⟩
  obtain ⟨v, rfl, d1⟩ := tva1 hd
  obtain ⟨a, rfl, ha⟩ := d1.intsI
  have hlen : ((zL ns).map V.int).length = ns.length := by rw [List.length_map, zL_len]
  have L0 : EvP (tLst (tCons (tTup tNil) tNil)) (start ["sizes", "found", "size", "content", "worth"] [.ref a]) H (IsLD K ((contents (ns.take 0)).map eL)) := fun H1 e Q q =>
    ead_cons (d := .tup []) (evd_tup ead_nil (by decide)) ead_nil H1 e _ fun vs H2 e2 p => ⟨by rw [p.length]; decide, fun l hl => q _ _ (e2.trans (Ex.new hl)) ⟨l, vs, rfl, upd_same, p.ex (Ex.new hl)⟩⟩
  refine qp_asg L0 fun v H1 e1 hv => ?_
  refine q_forT (a := a) (xs := (zL ns).map V.int) (ev_var rfl) (ex_t e1 ha) (fun i σ H' => ∃ v u, σ = [some (.ref a), some v, u, none, none] ∧ Ex H H' ∧ IsLD K ((contents (ns.take i)).map eL) v H') (fun H2 e2 => ⟨v, none, rfl, e1.trans e2, sty_LD _ _ _ e2 hv⟩) (fun i σ' H' _ ⟨v, u, _, e, _⟩ => ex_t e ha) ?_ ?_
  · rintro i x σ' H3 hi ⟨v, u, rfl, e, hv⟩
    rw [List.getElem?_map] at hi
    obtain ⟨z, hz, rfl⟩ := Option.map_eq_some_iff.mp hi
    unfold zL at hz
    rw [List.getElem?_map] at hz
    obtain ⟨n, hn, rfl⟩ := Option.map_eq_some_iff.mp hz
    have hil : i < ns.length := (List.getElem?_eq_some_iff.mp hn).1
    have hsl := size_len hs
    have hb : (contents (ns.take (i + 1))).length ≤ 64 := (contents_pre ns hs (i + 1) (by omega)).1
    have hb2 := (contents_pre ns hs i (by omega)).2
    rw [List.all_eq_true] at hb2
    have h4 := size_le hs n (List.mem_of_getElem? hn)
    have hnx := contents_take hn
    have hL : EvP _ _ H3 (IsLD K (((contents (ns.take i)).flatMap fun c => (List.range n).map fun (j : Nat) => NestedKey.tup (c.map NestedKey.num ++ [.num (j : Int)])))) :=
      evp_lc2R (σ := [some (V.ref a), some v, some (V.int (n : Int)), none, none]) (tA := tCons (tVar 2) tNil) (g := gName 3) (jx := 4) (vs := [3, 4]) (vs1 := [4]) (te := tOp (rCatA K) (tVar 3) (tTup (tCons (tVar 4) tNil))) (wi := iList K (tVar 1)) (Y := fun j v H => ∃ c, (contents (ns.take i))[j]? = some c ∧ Tv K H v (eL c)) (contents (ns.take i)) (fun _ => n) (fun c (j : Nat) => NestedKey.tup (c.map NestedKey.num ++ [.num (j : Int)]))
        (evi_list (evp_var rfl fun H4 e4 => by
          obtain ⟨b, ys, rfl, hy, ht⟩ := sty_LD _ _ _ e4 hv
          refine ⟨b, ys, rfl, sq_of hy, by rw [ht.length, List.length_map], fun i x H5 e5 hx => ?_⟩
          obtain ⟨d, hd', tv⟩ := ht.get hx
          rw [List.getElem?_map] at hd'
          obtain ⟨c, hc, rfl⟩ := Option.map_eq_some_iff.mp hd'
          exact ⟨c, hc, tv.ex e5⟩))
        (by rw [← longer_map, List.length_map, ← hnx]; omega) (fun _ _ => by omega) (fun j c x H4 hc e4 ⟨c', hc', tv⟩ => by
          rw [hc] at hc'
          cases hc'
          have hcl : c.length ≤ 5 := by simpa using hb2 c (List.mem_of_getElem? hc)
          exact gvg_name ⟨rfl, ea_cons (ev_var rfl) ea_nil, fun j H5 hj k5 => ⟨rfl, evd_cat (evd_var rfl (tv.kp k5)) (evd_tup (ead_cons (evd_i (ev_var rfl)) ead_nil) (by show 1 ≤ 100000; decide)) (by rw [List.length_map]; show c.length + 1 ≤ 100000; omega)⟩⟩)
    refine sp_asg hL fun v' H4 e4 hv' => ⟨v', some (.int (n : Int)), rfl, e.trans e4, ?_⟩
    rw [hnx, longer_map]
    exact hv'
  · rintro σ' H3 ⟨v, u, rfl, e, hv⟩
    refine sp_ret (P := IsLD K ((contents ns).map eL)) (evp_var rfl fun H4 e4 => ?_) fun v H4 e4 p => k v H4 (e.trans e4) p
    rw [hlen, List.take_length] at hv
    exact sty_LD _ _ _ e4 hv
end
end FM
/-! The walks: boxes. -/
namespace FM
open PySem PySem.Spec PyProof.Rows L2 Evl
theorem nums_get {p : List Int} {i : Nat} {d : NestedKey} (h : (p.map NestedKey.num)[i]? = some d) : ∃ z, p[i]? = some z ∧ d = .num z := by
  rw [List.getElem?_map] at h
  obtain ⟨z, hz, e⟩ := Option.map_eq_some_iff.mp h
  exact ⟨z, hz, e.symm⟩
theorem getD_get {c : List Int} {i : Nat} (h : i < c.length) : c[i]? = some (c.getD i 0) := by
  rw [List.getD_eq_getElem?_getD, List.getElem?_eq_getElem h]
  rfl
section
variable {P : Program} {w : World} {K : PySem.W.Frag} {mg : Str → Option Value} {base : Heap} {aN aO : Addr} {tC tM : Tok}
theorem sc_all_columns : FnScope ["columns"] ["columns"] (defScope (top 30)) := ⟨rfl, rfl, rfl, by decide +kernel, rfl, by decide +kernel, by decide +kernel⟩
def fAllC (K : PySem.W.Frag) : List NestedKey → VP → Prop := fun ds R => ∃ n : Nat, ds = [.num n] ∧ n ≤ 1000 ∧ R = IsD K (eL (allC n))
theorem fn_all_columns (D : Df K mg "all_columns" "all_columns" (top 30) ["columns"]) (T : Txt K mg aN aO tC tM) : Fn P w K mg base "all_columns" 1 ["columns"] (spD K (fAllC K)) := by
  refine D.fn fun f fd F => ?_
  refine F.ok sc_all_columns (fun vs H Q E h => spD_len h (by rintro ds P ⟨a, rfl, _⟩; rfl)) (fun cdv A outer s H vs Q E hr h => ?_)
  obtain ⟨R, ⟨ds, hd, n, rfl, hs, rfl⟩, k⟩ := h
  have hu64 := hr.units
  refine ⟨_, (pss_one (ps_ret (pe_tupRg rfl (by rfl) T.tuple (prg_1 (by rfl) T.range (pv 0))))), ?_⟩
  obtain ⟨v, rfl, d1⟩ := tva1 hd
  cases d1.num
  exact sp_ret (P := IsD K (eL (allC n))) (evd_tupRg (ev_var rfl) (by omega)) fun v H2 e2 p => k v H2 e2 p
theorem sc_is_pattern : FnScope ["columns", "thing", "c"] ["columns", "thing"] (defScope (top 31)) := ⟨rfl, rfl, rfl, by decide +kernel, rfl, by decide +kernel, by decide +kernel⟩
def fPattern : List NestedKey → VP → Prop := fun ds R => ∃ (n : Nat) (p : List Int), ds = [.num n, eL p] ∧ Pat n p ∧ p.length ≤ 1000 ∧ R = IsV (.bl true)
theorem fn_is_pattern (D : Df K mg "is_pattern" "is_pattern" (top 31) ["columns", "thing"]) (T : Txt K mg aN aO tC tM) (G_is_within : Fn P w K mg base "is_within" 2 ["thing", "least", "most"] (spD K fWithin)) (G_are_ascending : Fn P w K mg base "are_ascending" 1 ["things"] (spD K fAsc)) :
    Fn P w K mg base "is_pattern" 3 ["columns", "thing"] (spD K fPattern) := by
  refine D.fn fun f fd F => ?_
  refine F.ok sc_is_pattern (fun vs H Q E h => spD_len h (by rintro ds P ⟨a, b, rfl, _⟩; rfl)) (fun cdv A outer s H vs Q E hr h => ?_)
  obtain ⟨R, ⟨ds, hd, n, p, rfl, hp, hl, rfl⟩, k⟩ := h
  have hu64 := hr.units
  refine ⟨_, (pss_one (ps_ret (pe_and (pe_callB (r := rIsi K) call_isi (by rfl) T.isinstance boot_isinstance (pa_cons (pv 1) (pa_cons (pe_bltn (v := V.ty "tuple") (by rfl) T.tuple boot_tuple rfl) pa_nil))) (pe_and (pe_callB (r := rAll K) (cr_all rfl) (by rfl) T.all boot_all (pa_cons (pe_lc (own := [(("c" : Str), 2)]) (g := gName 2) (tt := tYes) rfl sc_is_pattern.nd (pi_tup (pv 1)) (blkOk_by (own := [(("c" : Str), 2)]) (N := ["columns", "thing", "c"]) (sc := defScope (top 31)) (by decide +kernel)) (fun _ _ _ _ _ => (pg_name (i := 2) sc_is_pattern.nd rfl (.inl rfl))) (fun _ _ _ _ _ => pts_nil) (fun _ _ _ _ _ => (pe_callF G_is_within (hr.mono (by decide)) (pa_cons (pv 2) (pa_cons pe_int (pa_cons (pe_op op_sub (pv 0) pe_int) pa_nil)))))) pa_nil)) (pe_one (pe_callF G_are_ascending (hr.mono (by decide)) (pa_cons (pv 1) pa_nil))))))), ?_⟩
  obtain ⟨v, u, rfl, d1, d2⟩ := tva2 hd
  cases d1.num
  have v1 : EvD K (tVar 1) (start ["columns", "thing", "c"] [V.int (n : Int), u]) H (eL p) := evd_var rfl d2
  refine sp_ret (P := IsV (.bl true)) (evp_v ?_) fun v H2 e2 p => k v H2 e2 p
  refine ev_andV (a := true) (b := true) (ev_isiTup v1 ev_c) fun _ => ev_andV (a := true) (b := true) (ev_allTrue (evi_tupD v1) (by rw [List.length_map]; omega) fun i x H2 hi e2 ⟨d, hd', tv⟩ => gvg_name ⟨rfl, ?_⟩) fun _ => (evp_callD (ead_cons v1 ead_nil) ⟨p, rfl, hp.1, hl, rfl⟩).ev
  obtain ⟨z, hz, rfl⟩ := nums_get hd'
  have := hp.2 z (List.mem_of_getElem? hz)
  exact (evp_callD (ead_cons (evd_var rfl tv) (ead_cons (evd_i ev_c) (ead_cons (evd_i (ev_op (ev_var rfl) ev_c rv_I0)) ead_nil))) ⟨z, 0, (n : Int) - 1, rfl, by omega, by omega, rfl⟩).ev
theorem sc_raw_box : FnScope ["pattern", "content", "c"] ["pattern", "content"] (defScope (top 33)) := ⟨rfl, rfl, rfl, by decide +kernel, rfl, by decide +kernel, by decide +kernel⟩
def fBox (K : PySem.W.Frag) : List NestedKey → VP → Prop := fun ds R => ∃ p c, ds = [eL p, eL c] ∧ (∀ i ∈ p, 0 ≤ i ∧ i.toNat < c.length) ∧ p.length ≤ 1000 ∧ R = IsD K (eB (p, proj p c))
theorem ed_box {σ : L2.St} {H : Hp} {p c : List Int} {i j jx : Nat} {v u : V} (hv : σ[i]? = some (some v)) (hu : (wipe σ [jx])[j]? = some (some u)) (hne : jx ≠ j) (hv' : Tv K H v (eL p)) (hu' : Tv K H u (eL c)) (hin : ∀ i ∈ p, 0 ≤ i ∧ i.toNat < c.length) (hl : p.length ≤ 1000) (hj : jx < σ.length)
    (hw : ∀ x, wipe ((wipe σ [jx]).set jx (some x)) [jx] = wipe σ [jx]) :
    EvD K (tTup (tCons (tVar i) (tCons (tCB (rTupOf K) (tCons (tLc (iTup K (tVar i)) (gName jx) tYes (tOp (rIxT K) (tVar j) (tVar jx)) [jx]) tNil)) tNil))) σ H (eB (p, proj p c)) := by
  have v1 : EvD K (tVar i) σ H (eL p) := evd_var hv hv'
  refine evd_tup (ead_cons v1 (ead_cons (evd_tupOf ?_) ead_nil)) (by show 2 ≤ 100000; decide)
  have L := evp_lcD (K := K) (te := tOp (rIxT K) (tVar j) (tVar jx)) (g := gName jx) (tt := tYes) (vs := [jx]) (σ := σ) (H := H) (wi := iTup K (tVar i)) p (fun _ => true) (fun z => NestedKey.num (c.getD z.toNat 0)) (Y := fun i v H => ∃ d, (p.map NestedKey.num)[i]? = some d ∧ Tv K H v d)
    (by have := evi_tupD v1; rw [List.length_map] at this; exact this) (by omega) (fun i z x H1 hz e ⟨d, hd, tv⟩ => by
      obtain ⟨z', hz', rfl⟩ := nums_get hd
      rw [hz] at hz'
      cases hz'
      cases Tv.num tv
      obtain ⟨h0, h1⟩ := hin z (List.mem_of_getElem? hz)
      refine gvg_name ⟨hw _, et_yes, fun _ => ?_⟩
      have ej : ((wipe σ [jx]).set jx (some (V.int z)))[j]? = some (some u) := by rw [List.getElem?_set_ne hne]; exact hu
      have ex : ((wipe σ [jx]).set jx (some (V.int z)))[jx]? = some (some (V.int z)) := by rw [List.getElem?_set_self (by rw [wipe_length]; exact hj)]
      refine evd_ix (i := z.toNat) (evd_var ej (hu'.ex e)) (Ev.castI (ev_var ex) (by omega)) ?_
      exact get_num (getD_get h1))
  rw [List.filter_eq_self.mpr (fun _ _ => rfl)] at L
  have e : p.map (fun z => NestedKey.num (c.getD z.toNat 0)) = (proj p c).map NestedKey.num := by
    unfold proj
    rw [List.map_map]
    rfl
  rw [e] at L
  exact L
theorem fn_raw_box (D : Df K mg "raw_box" "raw_box" (top 33) ["pattern", "content"]) (T : Txt K mg aN aO tC tM) : Fn P w K mg base "raw_box" 1 ["pattern", "content"] (spD K (fBox K)) := by
  refine D.fn fun f fd F => ?_
  refine F.ok sc_raw_box (fun vs H Q E h => spD_len h (by rintro ds P ⟨a, b, rfl, _⟩; rfl)) (fun cdv A outer s H vs Q E hr h => ?_)
  obtain ⟨R, ⟨ds, hd, p, c, rfl, hin, hl, rfl⟩, k⟩ := h
  have hu64 := hr.units
  refine ⟨_, (pss_one (ps_ret (pe_tup (pa_cons (pv 0) (pa_cons (pe_callTy (r := rTupOf K) call_tuple_of (by rfl) T.tuple boot_tuple (pa_cons (pe_lc (own := [(("c" : Str), 2)]) (g := gName 2) (tt := tYes) rfl sc_raw_box.nd (pi_tup (pv 0)) (blkOk_by (own := [(("c" : Str), 2)]) (N := ["pattern", "content", "c"]) (sc := defScope (top 33)) (by decide +kernel)) (fun _ _ _ _ _ => (pg_name (i := 2) sc_raw_box.nd rfl (.inl rfl))) (fun _ _ _ _ _ => pts_nil) (fun _ _ _ _ _ => (pe_ix (r := rIxT K) ix_tup (pv 1) (pv 2) (fun _ _ => rfl)))) pa_nil)) pa_nil))))), ?_⟩
  obtain ⟨v, u, rfl, d1, d2⟩ := tva2 hd
  exact sp_ret (P := IsD K (eB (p, proj p c))) (ed_box (i := 0) (j := 1) (jx := 2) rfl rfl (by decide) d1 d2 hin hl (by show 2 < 3; decide) fun _ => rfl) fun v H2 e2 p => k v H2 e2 p
theorem sc_is_in : FnScope ["box", "content"] ["box", "content"] (defScope (top 34)) := ⟨rfl, rfl, rfl, by decide +kernel, rfl, by decide +kernel, by decide +kernel⟩
def fIn : List NestedKey → VP → Prop := fun ds R => ∃ p ws c, ds = [eB (p, ws), eL c] ∧ (∀ i ∈ p, 0 ≤ i ∧ i.toNat < c.length) ∧ p.length ≤ 1000 ∧ R = IsV (.bl (decide (proj p c = ws)))
theorem eB_dec (p a b : List Int) : decide (eB (p, a) = eB (p, b)) = decide (a = b) := by
  rw [decide_eq_decide]
  exact ⟨fun h => congrArg Prod.snd (eB_inj h), fun h => by rw [h]⟩
theorem fn_is_in (D : Df K mg "is_in" "is_in" (top 34) ["box", "content"]) (T : Txt K mg aN aO tC tM) (G_raw_box : Fn P w K mg base "raw_box" 1 ["pattern", "content"] (spD K (fBox K))) : Fn P w K mg base "is_in" 2 ["box", "content"] (spD K fIn) := by
  refine D.fn fun f fd F => ?_
  refine F.ok sc_is_in (fun vs H Q E h => spD_len h (by rintro ds P ⟨a, b, c, rfl, _⟩; rfl)) (fun cdv A outer s H vs Q E hr h => ?_)
  obtain ⟨R, ⟨ds, hd, p, ws, c, rfl, hin, hl, rfl⟩, k⟩ := h
  have hu64 := hr.units
  refine ⟨_, (pss_one (ps_ret (pe_cmpR (r := rEqT K false) (op_eqT hu64) (pe_callF G_raw_box (hr.mono (by decide)) (pa_cons (pe_ix (r := rIxT K) ix_tup (pv 0) pe_int (fun _ _ => rfl)) (pa_cons (pv 1) pa_nil))) (pv 0) (nomark _)))), ?_⟩
  obtain ⟨v, u, rfl, d1, d2⟩ := tva2 hd
  have v0 : EvD K (tVar 0) (start ["box", "content"] [v, u]) H (eB (p, ws)) := evd_var rfl d1
  have v1 : EvD K (tVar 1) (start ["box", "content"] [v, u]) H (eL c) := evd_var rfl d2
  refine sp_ret (P := IsV (.bl (decide (proj p c = ws)))) (evp_v ?_) fun v H2 e2 p => k v H2 e2 p
  refine Ev.cast (ev_eqT (neg := false) (evp_callD (ead_cons (ev_ix0 v0 ev_c) (ead_cons v1 ead_nil)) ⟨p, c, rfl, hin, hl, rfl⟩) v0 (by rw [depth_eB]; decide) (by rw [depth_eB]; decide)) ?_
  exact eB_dec p _ _
theorem sc_is_raw_box : FnScope ["sizes", "thing", "pattern", "worths", "at", "c"] ["sizes", "thing"] (defScope (top 32)) := ⟨rfl, rfl, rfl, by decide +kernel, rfl, by decide +kernel, by decide +kernel⟩
def fRawBox : List NestedKey → VP → Prop := fun ds R => ∃ ns p ws, ds = [eL (zL ns), eB (p, ws)] ∧ Pat ns.length p ∧ p.length ≤ 1000 ∧ ws.length = p.length ∧ ns.length ≤ 1000 ∧
  (∀ (i : Nat) (c z : Int), p[i]? = some c → ws[i]? = some z → 0 ≤ z ∧ z ≤ (ns.getD c.toNat 0 : Int) - 1) ∧ R = IsV (.bl true)
theorem fn_is_raw_box (D : Df K mg "is_raw_box" "is_raw_box" (top 32) ["sizes", "thing"]) (T : Txt K mg aN aO tC tM) (G_is_pair : Fn P w K mg base "is_pair" 1 ["thing"] (spD K fPair)) (G_is_pattern : Fn P w K mg base "is_pattern" 3 ["columns", "thing"] (spD K fPattern))
    (G_is_within : Fn P w K mg base "is_within" 2 ["thing", "least", "most"] (spD K fWithin)) : Fn P w K mg base "is_raw_box" 4 ["sizes", "thing"] (spD K fRawBox) := by
  refine D.fn fun f fd F => ?_
  refine F.ok sc_is_raw_box (fun vs H Q E h => spD_len h (by rintro ds P ⟨a, b, c, rfl, _⟩; rfl)) (fun cdv A outer s H vs Q E hr h => ?_)
  obtain ⟨R, ⟨ds, hd, ns, p, ws, rfl, hp, hl, hwl, hnl, hin, rfl⟩, k⟩ := h
  have hu64 := hr.units
  refine ⟨_, (pss_cons (ps_if (pw_or (pt_not (pt_val (pe_callF G_is_pair (hr.mono (by decide)) (pa_cons (pv 1) pa_nil)))) (pw_or (pt_not (pt_val (pe_callF G_is_pattern (hr.mono (by decide)) (pa_cons (pe_callB (r := rLenS K) call_len_seq (by rfl) T.len boot_len (pa_cons (pv 0) pa_nil)) (pa_cons (pe_ix (r := rIxT K) ix_tup (pv 1) pe_int (fun _ _ => rfl)) pa_nil))))) (pw_or1 (pt_not (pt_val (pe_callB (r := rIsi K) call_isi (by rfl) T.isinstance boot_isinstance (pa_cons (pe_ix (r := rIxT K) ix_tup (pv 1) pe_int (fun _ _ => rfl)) (pa_cons (pe_bltn (v := V.ty "tuple") (by rfl) T.tuple boot_tuple rfl) pa_nil)))))))).pt (pss_one (ps_ret pe_bl)) pss_nil)
      (pss_cons (ps_asg (pv 1) (pg_tup (n := 2) rfl (pgs_cons (pg_name (i := 2) sc_is_raw_box.nd rfl (.inl rfl)) (pgs_cons (pg_name (i := 3) sc_is_raw_box.nd rfl (.inr rfl)) pgs_nil))))
      (pss_one (ps_ret (pe_and (pe_cmpR op_eq (pe_callB (r := rLenS K) call_len_seq (by rfl) T.len boot_len (pa_cons (pv 3) pa_nil)) (pe_callB (r := rLenS K) call_len_seq (by rfl) T.len boot_len (pa_cons (pv 2) pa_nil)) (nomark _)) (pe_one (pe_callB (r := rAll K) (cr_all rfl) (by rfl) T.all boot_all (pa_cons (pe_lc (own := [(("at" : Str), 4), (("c" : Str), 5)]) (g := gTup K 2 (gCons (gName 4) (gCons (gName 5) gNil))) (tt := tYes) rfl sc_is_raw_box.nd (pi_enumT (by rfl) T.enumerate (pa_cons (pv 2) pa_nil)) (blkOk_by (own := [(("at" : Str), 4), (("c" : Str), 5)]) (N := ["sizes", "thing", "pattern", "worths", "at", "c"]) (sc := defScope (top 32)) (by decide +kernel)) (fun _ _ _ _ _ => (pg_tup (n := 2) rfl (pgs_cons (pg_name (i := 4) sc_is_raw_box.nd rfl (.inl rfl)) (pgs_cons (pg_name (i := 5) sc_is_raw_box.nd rfl (.inl rfl)) pgs_nil)))) (fun _ _ _ _ _ => pts_nil) (fun _ _ _ _ _ => (pe_callF G_is_within (hr.mono (by decide)) (pa_cons (pe_ix (r := rIxT K) ix_tup (pv 3) (pv 4) (fun _ _ => rfl)) (pa_cons pe_int (pa_cons (pe_op op_sub (pe_ix (r := rIxT K) ix_tup (pv 0) (pv 5) (fun _ _ => rfl)) pe_int) pa_nil)))))) pa_nil)))))))), ?_⟩
  obtain ⟨v, u, rfl, d1, d2⟩ := tva2 hd
  have v0 : EvD K (tVar 0) (start ["sizes", "thing", "pattern", "worths", "at", "c"] [v, u]) H (eL (zL ns)) := evd_var rfl d1
  have v1 : EvD K (tVar 1) (start ["sizes", "thing", "pattern", "worths", "at", "c"] [v, u]) H (eB (p, ws)) := evd_var rfl d2
  have hlen : ((zL ns).map NestedKey.num).length = ns.length := map_len (zL_len ns)
  refine q_when (b := false) (et_false_or (et_nt (evp_callD (ead_cons v1 ead_nil) ⟨_, _, rfl, rfl⟩).ev) (et_false_or (et_nt (evp_callD (ead_cons (evd_i (Ev.castI (ev_lenD v0) (j := (ns.length : Int)) (by rw [hlen]))) (ead_cons (ev_ix0 v1 ev_c) ead_nil)) ⟨ns.length, p, rfl, hp, hl, rfl⟩).ev) (et_nt (ev_isiTup (ev_ix1 v1 ev_c) ev_c)))) (fun h => by cases h) fun _ H1 e1 => ?_
  refine qp_asgG (P := IsV u) (evp_v (ev_var rfl)) fun u' H3 e3 hu => ?_
  cases hu
  have e4 := e1.trans e3
  refine gvg_pair (d2.ex e4) fun x y hx hy => ?_
  refine sp_ret (P := IsV (.bl true)) (evp_v ?_) fun v H2 e2 p => k v H2 (e4.trans e2) p
  have l3 : Ev _ [some v, some u, some x, some y, none, none] H3 _ := ev_lenD (evd_var (i := 3) rfl hy)
  have l2 : Ev _ [some v, some u, some x, some y, none, none] H3 _ := ev_lenD (evd_var (i := 2) rfl hx)
  refine ev_andV (a := true) (b := true) (Ev.cast (ev_op l3 l2 (rv_eq rfl)) ?_) fun _ => ev_allTrue (evi_enumT (ead_cons (evd_var rfl hx) ead_nil)) (by rw [List.length_map]; show p.length ≤ 40000; omega) fun i q H4 hi e5 ⟨d, hd', tv⟩ => gvg_pair tv fun r1 r2 h1 h2 => ⟨rfl, ?_⟩
  · rw [List.length_map, List.length_map, hwl, decide_eq_true rfl]
  · obtain ⟨c, hc, rfl⟩ := nums_get hd'
    cases h1.num
    cases h2.num
    have hic : i < ws.length := by rw [hwl]; exact (List.getElem?_eq_some_iff.mp hc).1
    obtain ⟨z, hz⟩ : ∃ z, ws[i]? = some z := ⟨ws[i], List.getElem?_eq_getElem hic⟩
    have hh := hin i c z hc hz
    have hpc := hp.2 c (List.mem_of_getElem? hc)
    obtain ⟨n, hn⟩ : ∃ n, ns[c.toNat]? = some n := ⟨ns[c.toNat]'(by omega), List.getElem?_eq_getElem _⟩
    have en : (ns.getD c.toNat 0 : Int) = (n : Int) := by rw [List.getD_eq_getElem?_getD, hn]; rfl
    refine (evp_callD (ead_cons (evd_ix (i := i) (evd_var rfl (hy.ex e5)) (ev_var rfl) (get_num hz)) (ead_cons (evd_i ev_c) (ead_cons (evd_i (ev_op (ev_ixN (i := c.toNat) (evd_var rfl (d1.ex (e4.trans e5))) (Ev.castI (ev_var rfl) (by omega)) (get_num (zL_get hn))) ev_c rv_I0)) ead_nil))) ⟨z, 0, (n : Int) - 1, rfl, hh.1, by omega, rfl⟩).ev
end
end FM
/-! The law's own plain defs. -/
namespace FM
open PySem PySem.Spec PyProof.Rows L2 Evl
section
variable {K : PySem.W.Frag} {σ : L2.St} {H : Hp} {tl : TE} {g : TG} {tu : TS} {D : Ends} {tz : TS}
theorem sp_forLD {ds : List NestedKey} (h : EvP tl σ H (IsLD K ds)) (kk : ∀ a ys H1, Ex H H1 → H1 a = some (.lst ys) → TvA K H1 ys ds → ∃ Pv : Nat → L2.St → Hp → Prop, Pv 0 σ H1 ∧ (∀ i σ' H', i ≤ ys.length → Pv i σ' H' → SqL K H' a ys) ∧
    (∀ i x σ' H', ys[i]? = some x → Pv i σ' H' → g x σ' H' fun σ2 H2 => tu { D with nx := Pv (i + 1), ct := Pv (i + 1), bk := D.nx } σ2 H2) ∧ ∀ σ' H', Pv ys.length σ' H' → D.nx σ' H') : tFor (iList K tl) g tu D σ H :=
  h H (Ex.refl H) _ fun v H1 e ⟨a, ys, ev, hy, ht⟩ => by
    obtain ⟨Pv, p0, p1, p2, p3⟩ := kk a ys H1 e hy ht
    exact ⟨a, ev, ⟨ys, sq_of hy⟩, for_list Pv p0 p1 p2 p3⟩
theorem qp_forLD {ds : List NestedKey} (h : EvP tl σ H (IsLD K ds)) (kk : ∀ a ys H1, Ex H H1 → H1 a = some (.lst ys) → TvA K H1 ys ds → ∃ Pv : Nat → L2.St → Hp → Prop, Pv 0 σ H1 ∧ (∀ i σ' H', i ≤ ys.length → Pv i σ' H' → SqL K H' a ys) ∧
    (∀ i x σ' H', ys[i]? = some x → Pv i σ' H' → g x σ' H' fun σ2 H2 => tu { D with nx := Pv (i + 1), ct := Pv (i + 1), bk := tz D } σ2 H2) ∧ ∀ σ' H', Pv ys.length σ' H' → tz D σ' H') : tSeq (tFor (iList K tl) g tu) tz D σ H := sp_forLD (D := { D with nx := tz D }) h kk
theorem s_parI {i j : Nat} {ta : TA} {x y : V} (h : EvA ta σ H [x, y]) (k : ∀ H1, Ex H H1 → D.nx ((σ.set i (some x)).set j (some y)) H1) : tPar i j ta D σ H := h H (Ex.refl H) _ fun H1 e => ⟨x, y, rfl, k H1 e⟩
theorem q_parI {i j : Nat} {ta : TA} {x y : V} (h : EvA ta σ H [x, y]) (k : ∀ H1, Ex H H1 → tz D ((σ.set i (some x)).set j (some y)) H1) : tSeq (tPar i j ta) tz D σ H := s_parI (D := { D with nx := tz D }) h k
/-- an object that is not one of H's is made and changed -/
def ExB (l : Addr) (H H' : Hp) : Prop := ∀ a o, a ≠ l → H a = some o → H' a = some o
theorem ExB.of {l : Addr} {H H' : Hp} (e : Ex H H') : ExB l H H' := fun a o _ h => e a o h
theorem ExB.trans {l : Addr} {H H1 H2 : Hp} (a : ExB l H H1) (b : ExB l H1 H2) : ExB l H H2 := fun x o n h => b x o n (a x o n h)
theorem ExB.upd {l : Addr} {H : Hp} {o : HO} : ExB l H (upd H l o) := fun a u n h => by rw [upd_ne n]; exact h
theorem ExB.ex {l : Addr} {H H' : Hp} (h : H l = none) (e : ExB l H H') : Ex H H' := fun a o ha => e a o (ne_of_none ha h) ha
end
/-- the numbers that a longer list is made of -/
def rawPats (n : Nat) : List (List Int) := (List.range n).foldl (fun acc (c : Nat) => acc ++ acc.map fun p => p ++ [(c : Int)]) [[]]
def insL (p : List Int) : List (List Int) → List (List Int)
  | [] => [p]
  | q :: l => if lexL p q then p :: q :: l else q :: insL p l
def pats (n : Nat) : List (List Int) := (rawPats n).foldr insL []
def okPat (n : Nat) (p : List Int) : Bool := ((List.range (p.length - 1)).all fun i => decide (p.getD i 0 < p.getD (i + 1) 0)) && p.all fun i => decide (0 ≤ i) && decide (i < (n : Int))
theorem pats_facts : ∀ n, n ≤ 5 → (pats n).Pairwise (fun p q => lexL p q = true) ∧ ((pats n).all fun p => (rawPats n).contains p) = true ∧ ((rawPats n).all fun p => (pats n).contains p) = true ∧ (rawPats n).Nodup ∧ ((pats n).all fun p => okPat n p && decide (p.length ≤ 5)) = true ∧ (pats n).contains (allC n) = true ∧ (pats n).length ≤ 32 := by decide +kernel
theorem rawPats_pre : ∀ n, n ≤ 5 → (rawPats n).length ≤ 32 ∧ ((rawPats n).all fun p => decide (p.length ≤ 5)) = true := by decide +kernel
theorem pat_of {n : Nat} {p : List Int} (h : okPat n p = true) : Pat n p := by
  unfold okPat at h
  rw [Bool.and_eq_true, List.all_eq_true, List.all_eq_true] at h
  refine ⟨fun i a b ha hb => ?_, fun i hi => by simpa using h.2 i hi⟩
  have hl : i + 1 < p.length := (List.getElem?_eq_some_iff.mp hb).1
  have := h.1 i (List.mem_range.mpr (by omega))
  have := of_decide_eq_true this
  rw [List.getD_eq_getElem?_getD, List.getD_eq_getElem?_getD, ha, hb] at this
  exact this
theorem pats_ok {n : Nat} (hn : n ≤ 5) {p : List Int} (h : p ∈ pats n) : Pat n p ∧ p.length ≤ 5 := by
  have := (pats_facts n hn).2.2.2.2.1
  rw [List.all_eq_true] at this
  have := this p h
  rw [Bool.and_eq_true] at this
  exact ⟨pat_of this.1, of_decide_eq_true this.2⟩
theorem pats_mem {n : Nat} (hn : n ≤ 5) (p : List Int) : p ∈ pats n ↔ p ∈ rawPats n := by
  obtain ⟨_, h1, h2, _⟩ := pats_facts n hn
  rw [List.all_eq_true] at h1 h2
  exact ⟨fun h => by simpa using h1 p h, fun h => by simpa using h2 p h⟩
theorem rawPats_succ (n : Nat) : rawPats (n + 1) = rawPats n ++ (rawPats n).map fun p => p ++ [(n : Int)] := by
  unfold rawPats
  rw [List.range_succ, List.foldl_append]
  rfl
section
variable {P : Program} {w : World} {K : PySem.W.Frag} {mg : Str → Option Value} {base : Heap} {aN aO : Addr} {tC tM : Tok}
theorem sc__law_contents : FnScope ["_law_sizes_here", "_law_found", "_law_size", "_law_longer", "_law_content", "_law_worth"] ["_law_sizes_here"] (defScope (top 59)) := ⟨rfl, rfl, rfl, by decide +kernel, rfl, by decide +kernel, by decide +kernel⟩
theorem fn__law_contents (D : Df K mg "_law_contents" "_law_contents" (top 59) ["_law_sizes_here"]) (T : Txt K mg aN aO tC tM) : Fn P w K mg base "_law_contents" 1 ["_law_sizes_here"] (spD K (fContents K)) := by
  refine D.fn fun f fd F => ?_
  refine F.ok sc__law_contents (fun vs H Q E h => spD_len h (by rintro ds P ⟨a, rfl, _⟩; rfl)) (fun cdv A outer s H vs Q E hr h => ?_)
  obtain ⟨R, ⟨ds, hd, ns, rfl, hs, rfl⟩, k⟩ := h
  have hu64 := hr.units
  refine ⟨_, (pss_cons (ps_set (i := 1) sc__law_contents.nd rfl (.inl rfl) (pe_lst (pa_cons (pe_tup pa_nil) pa_nil)))
      (pss_cons (ps_for PassesOwn.never rfl (pi_tup (pv 0)) (pg_name (i := 2) sc__law_contents.nd rfl (.inl rfl))
        (pss_cons (ps_set (i := 3) sc__law_contents.nd rfl (.inl rfl) (pe_lst pa_nil))
        (pss_cons (ps_for PassesOwn.never rfl (pi_list (pv 1)) (pg_name (i := 4) sc__law_contents.nd rfl (.inr rfl))
          (pss_one (ps_expr (pe_bm PySem.F.plainAttrs_list PySem.F.slot_list_extend PySem.F.type_list_extend mt_extend (pv 3) (pa_cons (pe_lc (own := [(("_law_worth" : Str), 5)]) (g := gName 5) (tt := tYes) rfl sc__law_contents.nd (pi_range1 (by rfl) T.range (pa_cons (pv 2) pa_nil)) (blkOk_by (own := [(("_law_worth" : Str), 5)]) (N := ["_law_sizes_here", "_law_found", "_law_size", "_law_longer", "_law_content", "_law_worth"]) (sc := defScope (top 59)) (by decide +kernel)) (fun _ _ _ _ _ => (pg_name (i := 5) sc__law_contents.nd rfl (.inl rfl))) (fun _ _ _ _ _ => pts_nil) (fun _ _ _ _ _ => (pe_op (r := rCatA K) op_catA (pv 4) (pe_tup (pa_cons (pv 5) pa_nil))))) pa_nil)))))
        (pss_one (ps_set (i := 1) sc__law_contents.nd rfl (.inl rfl) (pv 3))))))
      (pss_one (ps_ret (pv 1))))), ?_⟩
  obtain ⟨v, rfl, d1⟩ := tva1 hd
  obtain ⟨a, rfl, ha⟩ := d1.intsI
  have hlen : ((zL ns).map V.int).length = ns.length := by rw [List.length_map, zL_len]
  have L0 : EvP (tLst (tCons (tTup tNil) tNil)) (start ["_law_sizes_here", "_law_found", "_law_size", "_law_longer", "_law_content", "_law_worth"] [.ref a]) H (IsLD K ((contents (ns.take 0)).map eL)) := fun H1 e Q q =>
    ead_cons (d := .tup []) (evd_tup ead_nil (by decide)) ead_nil H1 e _ fun vs H2 e2 p => ⟨by rw [p.length]; decide, fun l hl => q _ _ (e2.trans (Ex.new hl)) ⟨l, vs, rfl, upd_same, p.ex (Ex.new hl)⟩⟩
  refine qp_asg L0 fun v H1 e1 hv => ?_
  refine q_forT (a := a) (xs := (zL ns).map V.int) (ev_var rfl) (ex_t e1 ha) (fun i σ H' => ∃ v u z y, σ = [some (.ref a), some v, u, z, y, none] ∧ Ex H H' ∧ IsLD K ((contents (ns.take i)).map eL) v H') (fun H2 e2 => ⟨v, none, none, none, rfl, e1.trans e2, sty_LD _ _ _ e2 hv⟩) (fun i σ' H' _ ⟨v, u, z, y, _, e, _⟩ => ex_t e ha) ?_ ?_
  · rintro i x σ' H3 hi ⟨v, u, z0, y0, rfl, e, hv⟩
    rw [List.getElem?_map] at hi
    obtain ⟨z, hz, rfl⟩ := Option.map_eq_some_iff.mp hi
    unfold zL at hz
    rw [List.getElem?_map] at hz
    obtain ⟨n, hn, rfl⟩ := Option.map_eq_some_iff.mp hz
    have hil : i < ns.length := (List.getElem?_eq_some_iff.mp hn).1
    have hsl := size_len hs
    have hb : (contents (ns.take (i + 1))).length ≤ 64 := (contents_pre ns hs (i + 1) (by omega)).1
    have hb2 := (contents_pre ns hs i (by omega)).2
    rw [List.all_eq_true] at hb2
    have h4 := size_le hs n (List.mem_of_getElem? hn)
    have hnx := contents_take hn
    generalize hcc : contents (ns.take i) = cc at hv hb2 hnx
    -- longer = []
    refine ⟨by decide, fun l hl => ?_⟩
    have e2 : Ex H3 (upd H3 l (.lst [])) := Ex.new hl
    obtain ⟨b, ys, rfl, hy, ht⟩ := sty_LD _ _ _ e2 hv
    have nbl : b ≠ l := fun z => by
      subst z
      obtain ⟨b', ys', eb, hy', _⟩ := hv
      cases eb
      rw [hl] at hy'
      cases hy'
    refine q_forL (a := b) (xs := ys) (ev_var rfl) (sq_of hy) (fun j σ H' => ∃ y, σ = [some (.ref a), some (.ref b), some (.int (n : Int)), some (.ref l), y, none] ∧ ExB l (upd H3 l (.lst [])) H' ∧ Kp (upd H3 l (.lst [])) H' ∧ ∃ zs, H' l = some (.lst zs) ∧ TvA K H' zs ((longer (cc.take j) n).map eL)) (fun H4 e4 => ⟨y0, rfl, .of e4, .ex e4, [], e4 _ _ upd_same, .nil⟩) (fun j σ' H' _ ⟨_, _, eb, _⟩ => sq_of (eb b _ nbl hy)) ?_ ?_
    · rintro j x σ' H4 hj ⟨y, rfl, eb, kp, zs, hzs, htz⟩
      obtain ⟨d, hd', tv⟩ := ht.get hj
      rw [List.getElem?_map] at hd'
      obtain ⟨c, hc, rfl⟩ := Option.map_eq_some_iff.mp hd'
      have hcl : c.length ≤ 5 := by simpa using hb2 c (List.mem_of_getElem? hc)
      have tv4 := tv.kp kp
      have hL : EvP _ _ H4 (IsLD K ((((List.range n).filter fun _ => true).map fun (j : Nat) => NestedKey.tup (c.map NestedKey.num ++ [.num (j : Int)])))) :=
        evp_lcD (K := K) (σ := [some (V.ref a), some (V.ref b), some (V.int (n : Int)), some (V.ref l), some x, none]) (te := tOp (rCatA K) (tVar 4) (tTup (tCons (tVar 5) tNil))) (g := gName 5) (tt := tYes) (vs := [5]) (wi := iRng1 (tCons (tVar 2) tNil)) (Y := fun i => IsV (.int (i : Nat))) (List.range n) (fun _ => true) (fun (j : Nat) => NestedKey.tup (c.map NestedKey.num ++ [.num (j : Int)]))
          (by have := evi_rng1 (m := n) (ea_cons (ev_var (H := H4) (σ := [some (V.ref a), some (V.ref b), some (V.int (n : Int)), some (V.ref l), some x, none]) (i := 2) rfl) ea_nil) (by omega); rw [List.length_range]; exact this) (by rw [List.length_range]; omega)
          (fun i j' x' H5 hj' e5 hx' => by
            cases hx'
            have ei : j' = i := by
              obtain ⟨h1, h2⟩ := List.getElem?_eq_some_iff.mp hj'
              simpa using h2.symm
            subst ei
            exact gvg_name ⟨rfl, et_yes, fun _ => evd_cat (evd_var rfl (tv4.ex e5)) (evd_tup (ead_cons (evd_i (ev_var rfl)) ead_nil) (by show 1 ≤ 100000; decide)) (by rw [List.length_map]; show c.length + 1 ≤ 100000; omega)⟩)
      refine ⟨V.ref l, rfl, .inl ⟨rfl, zs, sq_of hzs⟩, ?_⟩
      refine hL H4 (Ex.refl H4) _ fun v H5 e5 ⟨q, qs, ev, hq, htq⟩ => ?_
      subst ev
      rw [List.filter_eq_self.mpr (fun _ _ => rfl)] at htq
      have k6 : Kp H5 (upd H5 l (.lst (zs ++ qs))) := Kp.upd (nrd_lst (e5 _ _ hzs))
      have hnl : longer (cc.take (j + 1)) n = longer (cc.take j) n ++ (List.range n).map fun (w : Nat) => c ++ [(w : Int)] := flat_take cc _ hc
      have emq : (((List.range n).map fun (w : Nat) => c ++ [(w : Int)]).map eL) = (List.range n).map fun (j : Nat) => NestedKey.tup (c.map NestedKey.num ++ [.num (j : Int)]) := by
        rw [List.map_map]
        refine List.map_congr_left fun j _ => ?_
        show NestedKey.tup ((c ++ [(j : Int)]).map NestedKey.num) = _
        rw [List.map_append]
        rfl
      have htz' : TvA K (upd H5 l (.lst (zs ++ qs))) (zs ++ qs) ((longer (cc.take (j + 1)) n).map eL) := by
        rw [hnl, List.map_append, emq]
        exact TvA.append ((htz.ex e5).kp k6) (htq.kp k6)
      have hzl : (zs ++ qs).length ≤ 64 := by
        have l1 := htz'.length
        rw [List.length_map] at l1
        have l2 : (longer (cc.take (j + 1)) n).length ≤ (longer cc n).length := flat_len cc _ (j + 1)
        rw [← hnx] at l2
        omega
      refine ⟨l, q, zs, qs, rfl, rfl, e5 _ _ hzs, hq, sz_of (by rw [List.length_append] at hzl; omega), ?_⟩
      exact ⟨some x, rfl, (eb.trans (.of e5)).trans ExB.upd, (kp.trans (.ex e5)).trans k6, _, upd_same, htz'⟩
    · rintro σ' H4 ⟨y, rfl, eb, kp, zs, hzs, htz⟩
      have hyl : ys.length = cc.length := by rw [ht.length, List.length_map]
      rw [hyl, List.take_length, ← hnx] at htz
      refine s_asg (ev_var rfl) fun H5 e5 => ⟨.ref l, some (.int (n : Int)), some (.ref l), y, rfl, ?_, l, zs, rfl, e5 _ _ hzs, htz.ex e5⟩
      have e6 : Ex H3 H4 := (ExB.ex hl (ExB.trans ExB.upd eb))
      exact (e.trans e6).trans e5
  · rintro σ' H3 ⟨v, u, z, y, rfl, e, hv⟩
    refine sp_ret (P := IsLD K ((contents ns).map eL)) (evp_var rfl fun H4 e4 => ?_) fun v H4 e4 p => k v H4 (e.trans e4) p
    rw [hlen, List.take_length] at hv
    exact sty_LD _ _ _ e4 hv
theorem sc__law_box : FnScope ["_law_pattern", "_law_content", "_law_c"] ["_law_pattern", "_law_content"] (defScope (top 61)) := ⟨rfl, rfl, rfl, by decide +kernel, rfl, by decide +kernel, by decide +kernel⟩
theorem fn__law_box (D : Df K mg "_law_box" "_law_box" (top 61) ["_law_pattern", "_law_content"]) (T : Txt K mg aN aO tC tM) : Fn P w K mg base "_law_box" 1 ["_law_pattern", "_law_content"] (spD K (fBox K)) := by
  refine D.fn fun f fd F => ?_
  refine F.ok sc__law_box (fun vs H Q E h => spD_len h (by rintro ds P ⟨a, b, rfl, _⟩; rfl)) (fun cdv A outer s H vs Q E hr h => ?_)
  obtain ⟨R, ⟨ds, hd, p, c, rfl, hin, hl, rfl⟩, k⟩ := h
  have hu64 := hr.units
  refine ⟨_, (pss_one (ps_ret (pe_tup (pa_cons (pv 0) (pa_cons (pe_callTy (r := rTupOf K) call_tuple_of (by rfl) T.tuple boot_tuple (pa_cons (pe_lc (own := [(("_law_c" : Str), 2)]) (g := gName 2) (tt := tYes) rfl sc__law_box.nd (pi_tup (pv 0)) (blkOk_by (own := [(("_law_c" : Str), 2)]) (N := ["_law_pattern", "_law_content", "_law_c"]) (sc := defScope (top 61)) (by decide +kernel)) (fun _ _ _ _ _ => (pg_name (i := 2) sc__law_box.nd rfl (.inl rfl))) (fun _ _ _ _ _ => pts_nil) (fun _ _ _ _ _ => (pe_ix (r := rIxT K) ix_tup (pv 1) (pv 2) (fun _ _ => rfl)))) pa_nil)) pa_nil))))), ?_⟩
  obtain ⟨v, u, rfl, d1, d2⟩ := tva2 hd
  exact sp_ret (P := IsD K (eB (p, proj p c))) (ed_box (i := 0) (j := 1) (jx := 2) rfl rfl (by decide) d1 d2 hin hl (by show 2 < 3; decide) fun _ => rfl) fun v H2 e2 p => k v H2 e2 p
theorem sc__law_is_in : FnScope ["_law_box_here", "_law_content"] ["_law_box_here", "_law_content"] (defScope (top 62)) := ⟨rfl, rfl, rfl, by decide +kernel, rfl, by decide +kernel, by decide +kernel⟩
theorem fn__law_is_in (D : Df K mg "_law_is_in" "_law_is_in" (top 62) ["_law_box_here", "_law_content"]) (T : Txt K mg aN aO tC tM) (G__law_box : Fn P w K mg base "_law_box" 1 ["_law_pattern", "_law_content"] (spD K (fBox K))) : Fn P w K mg base "_law_is_in" 2 ["_law_box_here", "_law_content"] (spD K fIn) := by
  refine D.fn fun f fd F => ?_
  refine F.ok sc__law_is_in (fun vs H Q E h => spD_len h (by rintro ds P ⟨a, b, c, rfl, _⟩; rfl)) (fun cdv A outer s H vs Q E hr h => ?_)
  obtain ⟨R, ⟨ds, hd, p, ws, c, rfl, hin, hl, rfl⟩, k⟩ := h
  have hu64 := hr.units
  refine ⟨_, (pss_one (ps_ret (pe_cmpR (r := rEqT K false) (op_eqT hu64) (pe_callF G__law_box (hr.mono (by decide)) (pa_cons (pe_ix (r := rIxT K) ix_tup (pv 0) pe_int (fun _ _ => rfl)) (pa_cons (pv 1) pa_nil))) (pv 0) (nomark _)))), ?_⟩
  obtain ⟨v, u, rfl, d1, d2⟩ := tva2 hd
  have v0 : EvD K (tVar 0) (start ["_law_box_here", "_law_content"] [v, u]) H (eB (p, ws)) := evd_var rfl d1
  have v1 : EvD K (tVar 1) (start ["_law_box_here", "_law_content"] [v, u]) H (eL c) := evd_var rfl d2
  refine sp_ret (P := IsV (.bl (decide (proj p c = ws)))) (evp_v ?_) fun v H2 e2 p => k v H2 e2 p
  refine Ev.cast (ev_eqT (neg := false) (evp_callD (ead_cons (ev_ix0 v0 ev_c) (ead_cons v1 ead_nil)) ⟨p, c, rfl, hin, hl, rfl⟩) v0 (by rw [depth_eB]; decide) (by rw [depth_eB]; decide)) ?_
  exact eB_dec p _ _
theorem sc__law_low : FnScope ["_law_top", "_law_bottom", "_law_a", "_law_b", "_law_turn"] ["_law_top", "_law_bottom"] (defScope (top 63)) := ⟨rfl, rfl, rfl, by decide +kernel, rfl, by decide +kernel, by decide +kernel⟩
def fLow (K : PySem.W.Frag) : List NestedKey → VP → Prop := fun ds R => ∃ t b, ds = [.num t, .num b] ∧ 0 < b ∧ b ≤ 144 ∧ R = IsD K (eF (lw t b))
theorem ev_int1 {σ : L2.St} {H : Hp} {te : TE} {i : Int} (h : Ev te σ H (.int i)) : Ev (tCB (fun xs H Q => (∃ i, xs = [V.int i] ∧ Q (.int i) H) ∨ ∃ k, xs = [V.bl k] ∧ Q (.int (if k then 1 else 0)) H) (tCons te tNil)) σ H (.int i) := fun H1 a Q q =>
  h H1 a _ fun H2 e2 => .inl ⟨i, rfl, q H2 e2⟩
theorem fn__law_low (D : Df K mg "_law_low" "_law_low" (top 63) ["_law_top", "_law_bottom"]) (T : Txt K mg aN aO tC tM) : Fn P w K mg base "_law_low" 1 ["_law_top", "_law_bottom"] (spD K (fLow K)) := by
  refine D.fn fun f fd F => ?_
  refine F.ok sc__law_low (fun vs H Q E h => spD_len h (by rintro ds P ⟨a, b, rfl, _⟩; rfl)) (fun cdv A outer s H vs Q E hr h => ?_)
  obtain ⟨R, ⟨ds, hd, t, b, rfl, h1, h2, rfl⟩, k⟩ := h
  have hu64 := hr.units
  refine ⟨_, (pss_cons (ps_par (i := 2) (j := 3) rfl sc__law_low.nd rfl rfl (by decide) rfl rfl (pa_cons (pe_callB call_abs (by rfl) T.abs boot_abs (pa_cons (pv 0) pa_nil)) (pa_cons (pv 1) pa_nil)) (by rfl))
      (pss_cons (ps_for PassesOwn.never rfl (pi_range1 (by rfl) T.range (pa_cons pe_int pa_nil)) (pg_name (i := 4) sc__law_low.nd rfl (.inl rfl))
        (pss_cons (ps_if (pt_cmpR op_eq (pv 3) pe_int (nomark _)) (pss_one ps_break) pss_nil)
        (pss_one (ps_par (i := 2) (j := 3) rfl sc__law_low.nd rfl rfl (by decide) rfl rfl (pa_cons (pv 3) (pa_cons (pe_op op_mod (pe_callTy call_int1 (by rfl) T.int boot_int (pa_cons (pv 2) pa_nil)) (pv 3)) pa_nil)) (by rfl)))))
      (pss_one (ps_ret (pe_tup (pa_cons (pe_op op_fdiv (pv 0) (pv 2)) (pa_cons (pe_op op_fdiv (pv 1) (pv 2)) pa_nil))))))), ?_⟩
  obtain ⟨v, u, rfl, d1, d2⟩ := tva2 hd
  cases d1.num
  cases d2.num
  have g1 := gI_pos (k := t) h1
  have g2 := gI_le (k := t) h1
  refine q_parI (ea_cons (ev_abs (ev_var rfl)) (ea_cons (ev_var rfl) ea_nil)) fun H1 e1 => ?_
  have fin : ∀ (x : Nat) (z : Option V) H', Ex H H' → Nat.gcd x 0 = Nat.gcd t.natAbs b.natAbs → tRet (tTup (tCons (tOp (rI CDiv fun i j => .int (i / j)) (tVar 0) (tVar 2)) (tCons (tOp (rI CDiv fun i j => .int (i / j)) (tVar 1) (tVar 2)) tNil))) { nx := fun _ H' => Q .non H', rt := Q } [some (.int t), some (.int b), some (.int (x : Int)), some (.int 0), z] H' := by
    intro x z H' e hg
    rw [Nat.gcd_zero_right] at hg
    have hx : (x : Int) = gI t b := by unfold gI; rw [hg]
    refine sp_ret (P := IsD K (eF (lw t b))) (evd_tup (ead_cons (evd_i ?_) (ead_cons (evd_i ?_) ead_nil)) (by show 2 ≤ 100000; decide)) fun v H2 e2 p => k v H2 (e.trans e2) p
    · refine Ev.castI (ev_op (ev_var rfl) (ev_var rfl) (rv_I ⟨by omega, by omega⟩)) ?_
      rw [hx]
      rfl
    · refine Ev.castI (ev_op (ev_var rfl) (ev_var rfl) (rv_I ⟨by omega, by omega⟩)) ?_
      rw [hx]
      rfl
  refine q_forR1 (j := 4) (n := 2000) (ea_cons ev_c ea_nil) (by decide) (fun i σ H' => ∃ (x y : Nat) (z : Option V), σ = [some (.int t), some (.int b), some (.int (x : Int)), some (.int (y : Int)), z] ∧ (y + i ≤ 144 ∨ y = 0) ∧ Nat.gcd x y = Nat.gcd t.natAbs b.natAbs ∧ Ex H H') (fun H2 e2 => ⟨t.natAbs, b.natAbs, none, ?_, .inl (by omega), rfl, e1.trans e2⟩) ?_ ?_
  · have : (b.natAbs : Int) = b := by omega
    show _ = [some (V.int t), some (V.int b), some (V.int (t.natAbs : Int)), some (V.int (b.natAbs : Int)), none]
    rw [this]
    rfl
  · rintro i σ' H3 hi ⟨x, y, z, rfl, hy, hg, e⟩
    refine q_when (b := decide (V.int (y : Int) = V.int 0)) (et_test (ev_op (ev_var rfl) ev_c (rv_eq rfl))) (fun hb H4 e4 => ?_) fun hb H4 e4 => ?_
    · have hy0 : y = 0 := by
        have := V.int.inj (of_decide_eq_true hb)
        omega
      subst hy0
      exact fin x _ H4 (e.trans e4) hg
    · have hy0 : 0 < y := by
        rcases Nat.eq_zero_or_pos y with h | h
        · subst h
          exact absurd rfl (of_decide_eq_false hb)
        · exact h
      refine s_parI (ea_cons (ev_var rfl) (ea_cons (Ev.castI (j := ((x % y : Nat) : Int)) (ev_op (ev_int1 (ev_var rfl)) (ev_var rfl) (rv_I (by omega))) (by omega)) ea_nil)) fun H5 e5 => ⟨y, x % y, some (.int (i : Int)), rfl, ?_, ?_, (e.trans e4).trans e5⟩
      · have := Nat.mod_lt x hy0
        omega
      · rw [gI_step hy0, hg]
  · rintro σ' H3 ⟨x, y, z, rfl, hy, hg, e⟩
    have hy0 : y = 0 := by
      rcases hy with h | h
      · have : (2000 : Int).toNat = 2000 := rfl
        omega
      · exact h
    subst hy0
    exact fin x z H3 e hg
end
end FM
/-! The law's own plain defs, on: plus, sum, patterns. -/
namespace FM
open PySem PySem.Spec PyProof.Rows L2 Evl
section
variable {K : PySem.W.Frag} {σ : L2.St} {H : Hp} {ta tb te : TE}
theorem evp_catLD {ds es : List NestedKey} (ha : EvP ta σ H (IsLD K ds)) (hb : EvP tb σ H (IsLD K es)) (hl : ds.length + es.length ≤ 100000) : EvP (tOp rCat ta tb) σ H (IsLD K (ds ++ es)) :=
  evp_op ha sty_LD hb fun x y H1 _ ⟨l, xs, ex, hx, tx⟩ ⟨b, ys, ey, hy, ty⟩ Q q => ⟨l, b, xs, ys, ex, ey, hx, hy, sz_of (by rw [tx.length, ty.length]; exact hl), fun p hp => q _ _ (Ex.new hp) ⟨p, xs ++ ys, rfl, upd_same, TvA.append (tx.ex (Ex.new hp)) (ty.ex (Ex.new hp))⟩⟩
def rSrtL (K : PySem.W.Frag) : List V → Hp → VK → Prop := fun vs H Q => ∃ a xs ds, vs = [V.ref a] ∧ SqL K H a xs ∧ TvA K H xs ds ∧ Srt ds ∧ Out H K ds Q
theorem evp_sortL {ps : List (List Int)} (h : EvP te σ H (IsLD K (ps.map eL))) (hn : ps.Nodup) : EvP (tCB (rSrtL K) (tCons te tNil)) σ H (fun v H2 => ∃ qs : List (List Int), qs.Perm ps ∧ qs.Pairwise (fun p q => lexL p q = true) ∧ IsLD K (qs.map eL) v H2) := fun H1 a Q q =>
  h H1 a _ fun v H2 e2 ⟨l, xs, ev, hx, tx⟩ => ⟨l, xs, _, by rw [ev], sq_of hx, tx, srt_eL ps, fun p ys es hp ty h1 h2 => by
    obtain ⟨qs, rfl, g1, g2⟩ := out_eL h1 h2 hn
    exact q _ _ (e2.trans (Ex.new hp)) ⟨qs, g1, g2, p, ys, rfl, upd_same, ty.ex (Ex.new hp)⟩⟩
theorem evp_sortP {ps : List (List Int × (Int × Int))} (h : EvP te σ H (IsLD K (ps.map eP))) (hn : (ps.map (·.1)).Nodup) : EvP (tCB (rSrtL K) (tCons te tNil)) σ H (fun v H2 => ∃ qs : List (List Int × (Int × Int)), qs.Perm ps ∧ qs.Pairwise (fun p q => lexL p.1 q.1 = true) ∧ IsLD K (qs.map eP) v H2) := fun H1 a Q q =>
  h H1 a _ fun v H2 e2 ⟨l, xs, ev, hx, tx⟩ => ⟨l, xs, _, by rw [ev], sq_of hx, tx, srt_eP ps, fun p ys es hp ty h1 h2 => by
    obtain ⟨qs, rfl, g1, g2⟩ := out_eP h1 h2 hn
    exact q _ _ (e2.trans (Ex.new hp)) ⟨qs, g1, g2, p, ys, rfl, upd_same, ty.ex (Ex.new hp)⟩⟩
/-- a written list of data -/
theorem evp_lst {ta : TA} {ds : List NestedKey} (h : EaD K ta σ H ds) (hl : ds.length ≤ 100000) : EvP (tLst ta) σ H (IsLD K ds) := fun H1 e Q q =>
  h H1 e _ fun vs H2 e2 p => ⟨by rw [p.length]; exact sz_of hl, fun l hl => q _ _ (e2.trans (Ex.new hl)) ⟨l, vs, rfl, upd_same, p.ex (Ex.new hl)⟩⟩
end
section
variable {P : Program} {w : World} {K : PySem.W.Frag} {mg : Str → Option Value} {base : Heap} {aN aO : Addr} {tC tM : Tok}
theorem sc__law_plus : FnScope ["_law_one", "_law_other"] ["_law_one", "_law_other"] (defScope (top 64)) := ⟨rfl, rfl, rfl, by decide +kernel, rfl, by decide +kernel, by decide +kernel⟩
theorem fn__law_plus (D : Df K mg "_law_plus" "_law_plus" (top 64) ["_law_one", "_law_other"]) (T : Txt K mg aN aO tC tM) (G__law_low : Fn P w K mg base "_law_low" 1 ["_law_top", "_law_bottom"] (spD K (fLow K))) : Fn P w K mg base "_law_plus" 2 ["_law_one", "_law_other"] (spD K (fPlus K)) := by
  refine D.fn fun f fd F => ?_
  refine F.ok sc__law_plus (fun vs H Q E h => spD_len h (by rintro ds P ⟨a, b, c, rfl, _⟩; rfl)) (fun cdv A outer s H vs Q E hr h => ?_)
  obtain ⟨R, ⟨ds, hd, m, j, B, rfl, h1, h2, rfl⟩, k⟩ := h
  have hu64 := hr.units
  refine ⟨_, (pss_one (ps_ret (pe_callF G__law_low (hr.mono (by decide)) (pa_cons (pe_op op_add (pe_op op_mul (pe_ix (r := rIxT K) ix_tup (pv 0) pe_int (fun _ _ => rfl)) (pe_ix (r := rIxT K) ix_tup (pv 1) pe_int (fun _ _ => rfl))) (pe_op op_mul (pe_ix (r := rIxT K) ix_tup (pv 1) pe_int (fun _ _ => rfl)) (pe_ix (r := rIxT K) ix_tup (pv 0) pe_int (fun _ _ => rfl)))) (pa_cons (pe_op op_mul (pe_ix (r := rIxT K) ix_tup (pv 0) pe_int (fun _ _ => rfl)) (pe_ix (r := rIxT K) ix_tup (pv 1) pe_int (fun _ _ => rfl))) pa_nil))))), ?_⟩
  obtain ⟨v, u, rfl, d1, d2⟩ := tva2 hd
  have v0 : EvD K (tVar 0) (start ["_law_one", "_law_other"] [v, u]) H (eF (lw m B)) := evd_var rfl d1
  have v1 : EvD K (tVar 1) (start ["_law_one", "_law_other"] [v, u]) H (eF (lw j B)) := evd_var rfl d2
  have x0 := (ev_ix0 v0 ev_c).int
  have x1 := (ev_ix1 v0 ev_c).int
  have y0 := (ev_ix0 v1 ev_c).int
  have y1 := (ev_ix1 v1 ev_c).int
  have p1 := lw_pos (k := m) h1
  have p2 := lw_pos (k := j) h1
  have q1 := lw_le (k := m) h1
  have q2 := lw_le (k := j) h1
  have q3 : (lw m B).2 * (lw j B).2 ≤ 12 * 12 := Int.mul_le_mul (by omega) (by omega) (by omega) (by omega)
  refine sp_ret (P := IsD K (eF (lw (m + j) B))) ?_ fun v H2 e2 p => k v H2 e2 p
  refine (evp_callD (ead_cons (evd_i (ev_op (ev_op x0 y1 (rv_I (.inr ⟨by omega, by omega⟩))) (ev_op y0 x1 (rv_I (.inr ⟨by omega, by omega⟩))) rv_I0)) (ead_cons (evd_i (ev_op x1 y1 (rv_I (.inr ⟨by omega, by omega⟩)))) ead_nil)) ⟨_, _, rfl, Int.mul_pos p1 p2, by omega, rfl⟩).imp fun v H2 _ p => ?_
  rw [← lw_add2 h1]
  exact p
theorem sc__law_sum : FnScope ["_law_row", "_law_found", "_law_item"] ["_law_row"] (defScope (top 65)) := ⟨rfl, rfl, rfl, by decide +kernel, rfl, by decide +kernel, by decide +kernel⟩
theorem fn__law_sum (D : Df K mg "_law_sum" "_law_sum" (top 65) ["_law_row"]) (T : Txt K mg aN aO tC tM) (G__law_plus : Fn P w K mg base "_law_plus" 2 ["_law_one", "_law_other"] (spD K (fPlus K))) : Fn P w K mg base "_law_sum" 3 ["_law_row"] (spG (fTotal K)) := by
  refine D.fn fun f fd F => ?_
  refine F.ok sc__law_sum (fun vs H Q E h => by obtain ⟨R, ⟨a, xs, ks, B, rfl, _⟩, _⟩ := h; rfl) (fun cdv A outer s H vs Q E hr h => ?_)
  obtain ⟨R, ⟨a, xs, ks, B, rfl, ha, hd, h1, h2, rfl⟩, k⟩ := h
  have hu64 := hr.units
  refine ⟨_, (pss_cons (ps_set (i := 1) sc__law_sum.nd rfl (.inl rfl) (pe_tup (pa_cons pe_int (pa_cons pe_int pa_nil))))
      (pss_cons (ps_for PassesOwn.never rfl (pi_list (pv 0)) (pg_name (i := 2) sc__law_sum.nd rfl (.inl rfl))
        (pss_one (ps_set (i := 1) sc__law_sum.nd rfl (.inl rfl) (pe_callF G__law_plus (hr.mono (by decide)) (pa_cons (pv 1) (pa_cons (pv 2) pa_nil))))))
      (pss_one (ps_ret (pv 1))))), ?_⟩
  refine qp_asg (P := IsD K (eF (lw 0 B))) (by rw [lw_zero h1]; exact evd_tup (ead_cons (evd_i ev_c) (ead_cons (evd_i ev_c) ead_nil)) (by show 2 ≤ 100000; decide)) fun v H1 e1 hv => ?_
  refine q_forL (a := a) (xs := xs) (ev_var rfl) (sq_of (e1 _ _ ha)) (fun i σ H' => ∃ v u, σ = [some (.ref a), some v, u] ∧ Ex H H' ∧ Tv K H' v (eF (lw (ks.take i).sum B))) (fun H2 e2 => ⟨v, none, rfl, e1.trans e2, ?_⟩) (fun i σ' H' _ ⟨v, u, _, e, _⟩ => sq_of (e _ _ ha)) ?_ ?_
  · exact Tv.ex hv e2
  · rintro i x σ' H3 hi ⟨v, u, rfl, e, hv⟩
    obtain ⟨d, hd', tv⟩ := hd.get hi
    obtain ⟨kk, hk1, hk2⟩ : ∃ kk, ks[i]? = some kk ∧ d = eF (lw kk B) := by
      rw [List.getElem?_map] at hd'
      cases hk : ks[i]? with
      | none => rw [hk] at hd'; cases hd'
      | some kk => rw [hk] at hd'; exact ⟨kk, rfl, (Option.some.inj hd').symm⟩
    subst hk2
    refine sp_asg (evp_callD (ead_cons (evd_var rfl hv) (ead_cons (evd_var rfl (tv.ex e)) ead_nil)) ⟨_, _, B, rfl, h1, h2, rfl⟩) fun v' H4 e4 hv' => ⟨v', some x, rfl, e.trans e4, ?_⟩
    have : (ks.take (i + 1)).sum = (ks.take i).sum + kk := by
      rw [List.take_add_one, hk1]
      simp
    rw [this]
    exact hv'
  · rintro σ' H3 ⟨v, u, rfl, e, hv⟩
    refine sp_ret (P := IsD K (eF (lw ks.sum B))) ?_ fun v H4 e4 p => k v H4 (e.trans e4) p
    have hl : xs.length = ks.length := by
      rw [hd.length, List.length_map]
    rw [hl, List.take_length] at hv
    exact evd_var rfl hv
theorem sc__law_patterns : FnScope ["_law_columns", "_law_found", "_law_c", "_law_pattern"] ["_law_columns"] (defScope (top 60)) := ⟨rfl, rfl, rfl, by decide +kernel, rfl, by decide +kernel, by decide +kernel⟩
def fPats (K : PySem.W.Frag) : List NestedKey → VP → Prop := fun ds R => ∃ n : Nat, ds = [.num n] ∧ n ≤ 5 ∧ R = IsLD K ((pats n).map eL)
theorem fn__law_patterns (D : Df K mg "_law_patterns" "_law_patterns" (top 60) ["_law_columns"]) (T : Txt K mg aN aO tC tM) : Fn P w K mg base "_law_patterns" 1 ["_law_columns"] (spD K (fPats K)) := by
  refine D.fn fun f fd F => ?_
  refine F.ok sc__law_patterns (fun vs H Q E h => spD_len h (by rintro ds P ⟨a, rfl, _⟩; rfl)) (fun cdv A outer s H vs Q E hr h => ?_)
  obtain ⟨R, ⟨ds, hd, n, rfl, hn, rfl⟩, k⟩ := h
  have hu64 := hr.units
  have hu20 : (A.deeper (envOfC "_law_patterns" (defScope (top 60)) s.heap.objs.size f cdv)).units + 20 < cLine := by omega
  refine ⟨_, (pss_cons (ps_set (i := 1) sc__law_patterns.nd rfl (.inl rfl) (pe_lst (pa_cons (pe_tup pa_nil) pa_nil)))
      (pss_cons (ps_for PassesOwn.never rfl (pi_range1 (by rfl) T.range (pa_cons (pv 0) pa_nil)) (pg_name (i := 2) sc__law_patterns.nd rfl (.inr rfl))
        (pss_one (ps_set (i := 1) sc__law_patterns.nd rfl (.inl rfl) (pe_op op_cat (pv 1) (pe_lc (own := [(("_law_pattern" : Str), 3)]) (g := gName 3) (tt := tYes) rfl sc__law_patterns.nd (pi_list (pv 1)) (blkOk_by (own := [(("_law_pattern" : Str), 3)]) (N := ["_law_columns", "_law_found", "_law_c", "_law_pattern"]) (sc := defScope (top 60)) (by decide +kernel)) (fun _ _ _ _ _ => (pg_name (i := 3) sc__law_patterns.nd rfl (.inl rfl))) (fun _ _ _ _ _ => pts_nil) (fun _ _ _ _ _ => (pe_op (r := rCatA K) op_catA (pv 3) (pe_tup (pa_cons (pv 2) pa_nil)))))))))
      (pss_one (ps_ret (pe_callB (r := rSrtL K) (cr_sortedL hu20) (by rfl) T.sorted boot_sorted (pa_cons (pv 1) pa_nil)))))), ?_⟩
  obtain ⟨v, rfl, d1⟩ := tva1 hd
  cases d1.num
  refine qp_asg (P := IsLD K ((rawPats 0).map eL)) (evp_lst (ead_cons (d := .tup []) (evd_tup ead_nil (by decide)) ead_nil) (by decide)) fun v H1 e1 hv => ?_
  refine q_forR1 (j := 2) (n := (n : Int)) (ea_cons (ev_var rfl) ea_nil) (by omega) (fun i σ H' => ∃ v z, σ = [some (.int (n : Int)), some v, z, none] ∧ Ex H H' ∧ IsLD K ((rawPats i).map eL) v H') (fun H2 e2 => ⟨v, none, rfl, e1.trans e2, sty_LD _ _ _ e2 hv⟩) ?_ ?_
  · rintro i σ' H3 hi ⟨v, z, rfl, e, hv⟩
    have hb := rawPats_pre i (by omega)
    have hb1 := rawPats_pre (i + 1) (by omega)
    have hb2 := hb.2
    rw [List.all_eq_true] at hb2
    have hL : EvP _ [some (V.int (n : Int)), some v, some (V.int (i : Int)), none] H3 (IsLD K (((rawPats i).filter fun _ => true).map fun p => NestedKey.tup (p.map NestedKey.num ++ [.num (i : Int)]))) :=
      evp_lcD (K := K) (σ := [some (V.int (n : Int)), some v, some (V.int (i : Int)), none]) (te := tOp (rCatA K) (tVar 3) (tTup (tCons (tVar 2) tNil))) (g := gName 3) (tt := tYes) (vs := [3]) (wi := iList K (tVar 1)) (Y := fun j v H => ∃ d, ((rawPats i).map eL)[j]? = some d ∧ Tv K H v d) (rawPats i) (fun _ => true) (fun p => NestedKey.tup (p.map NestedKey.num ++ [.num (i : Int)]))
        (by have := evi_listD (K := K) (tl := tVar 1) (evp_var (σ := [some (V.int (n : Int)), some v, some (V.int (i : Int)), none]) (i := 1) rfl fun H4 e4 => sty_LD _ _ _ e4 hv); rw [List.length_map] at this; exact this) (by omega)
        (fun j p x H4 hp e4 ⟨d, hd', tv⟩ => by
          rw [List.getElem?_map, hp] at hd'
          cases hd'
          have hpl : p.length ≤ 5 := by simpa using hb2 p (List.mem_of_getElem? hp)
          exact gvg_name ⟨rfl, et_yes, fun _ => evd_cat (evd_var rfl tv) (evd_tup (ead_cons (evd_i (ev_var rfl)) ead_nil) (by show 1 ≤ 100000; decide)) (by rw [List.length_map]; show p.length + 1 ≤ 100000; omega)⟩)
    rw [List.filter_eq_self.mpr (fun _ _ => rfl)] at hL
    refine sp_asg (evp_catLD (evp_var rfl fun H4 e4 => sty_LD _ _ _ e4 hv) hL (by rw [List.length_map, List.length_map]; omega)) fun v' H4 e4 hv' => ⟨v', some (.int (i : Int)), rfl, e.trans e4, ?_⟩
    have em : ((rawPats i).map fun p => p ++ [(i : Int)]).map eL = (rawPats i).map fun p => NestedKey.tup (p.map NestedKey.num ++ [.num (i : Int)]) := by
      rw [List.map_map]
      refine List.map_congr_left fun j _ => ?_
      show NestedKey.tup ((j ++ [(i : Int)]).map NestedKey.num) = _
      rw [List.map_append]
      rfl
    rw [rawPats_succ, List.map_append, em]
    exact hv'
  · rintro σ' H3 ⟨v, z, rfl, e, hv⟩
    rw [Int.toNat_natCast] at hv
    obtain ⟨f1, f2, f3, f4, f5, f6⟩ := pats_facts n hn
    refine sp_ret (evp_sortL (evp_var rfl fun H4 e4 => sty_LD _ _ _ e4 hv) f4) fun v H4 e4 ⟨qs, g1, g2, hv'⟩ => k v H4 (e.trans e4) ?_
    have : qs = pats n := sorted_one (R := fun p q => lexL p q = true) (fun a b h1 h2 => by rw [lexL_asym h1] at h2; cases h2) g2 f1 fun x => by rw [pats_mem hn, g1.mem_iff]
    rw [← this]
    exact hv'
end
end FM
/-! Rows of habits. -/
namespace FM
open PySem PySem.Spec PyProof.Rows L2 Evl
/-- a row of (pattern, numerator), its shares of bottom B -/
abbrev Row := List (List Int × Int)
def rowE (B : Int) (r : Row) : List (List Int × (Int × Int)) := r.map fun x => (x.1, lw x.2 B)
structure GoodRow (n : Nat) (B : Int) (r : Row) : Prop where
  asc : r.Pairwise fun p q => lexL p.1 q.1 = true
  pat : ∀ x ∈ r, Pat n x.1 ∧ x.1.length ≤ 1000
  num : ∀ x ∈ r, 0 < x.2 ∧ x.2 ≤ B
  sum : (r.map (·.2)).sum = B
  len : r.length ≤ 1000
theorem rowE_get {B : Int} {r : Row} {i : Nat} {d : NestedKey} (h : ((rowE B r).map eP)[i]? = some d) : ∃ x, r[i]? = some x ∧ d = eP (x.1, lw x.2 B) := by
  unfold rowE at h
  rw [List.map_map, List.getElem?_map] at h
  obtain ⟨x, hx, e⟩ := Option.map_eq_some_iff.mp h
  exact ⟨x, hx, e.symm⟩
theorem rowE_at {B : Int} {r : Row} {i : Nat} {x : List Int × Int} (h : r[i]? = some x) : ((rowE B r).map eP)[i]? = some (eP (x.1, lw x.2 B)) := by
  unfold rowE
  rw [List.map_map, List.getElem?_map, h]
  rfl
theorem rowE_len {B : Int} {r : Row} : ((rowE B r).map eP).length = r.length := by unfold rowE; rw [List.length_map, List.length_map]
section
variable {P : Program} {w : World} {K : PySem.W.Frag} {mg : Str → Option Value} {base : Heap} {aN aO : Addr} {tC tM : Tok}
theorem sc_is_habit_row : FnScope ["columns", "thing", "item", "at"] ["columns", "thing"] (defScope (top 36)) := ⟨rfl, rfl, rfl, by decide +kernel, rfl, by decide +kernel, by decide +kernel⟩
def fHabitRow : List NestedKey → VP → Prop := fun ds R => ∃ (n : Nat) (B : Int) (r : Row), ds = [.num n, eR (rowE B r)] ∧ 0 < B ∧ B ≤ 12 ∧ GoodRow n B r ∧ R = IsV (.bl true)
theorem fn_is_habit_row (D : Df K mg "is_habit_row" "is_habit_row" (top 36) ["columns", "thing"]) (T : Txt K mg aN aO tC tM) (G_is_pair : Fn P w K mg base "is_pair" 1 ["thing"] (spD K fPair)) (G_is_pattern : Fn P w K mg base "is_pattern" 3 ["columns", "thing"] (spD K fPattern))
    (G_is_share : Fn P w K mg base "is_share" 3 ["thing"] (spD K fShare)) (G_total : Fn P w K mg base "total" 4 ["row"] (spG (fTotal K))) : Fn P w K mg base "is_habit_row" 5 ["columns", "thing"] (spD K fHabitRow) := by
  refine D.fn fun f fd F => ?_
  refine F.ok sc_is_habit_row (fun vs H Q E h => spD_len h (by rintro ds P ⟨a, b, c, rfl, _⟩; rfl)) (fun cdv A outer s H vs Q E hr h => ?_)
  obtain ⟨R, ⟨ds, hd, n, B, r, rfl, h1, h2, g, rfl⟩, k⟩ := h
  have hu64 := hr.units
  have hu0 := hr.units0
  refine ⟨_, (pss_cons (ps_if (pw_or (pt_not (pt_val (pe_callB (r := rIsi K) call_isi (by rfl) T.isinstance boot_isinstance (pa_cons (pv 1) (pa_cons (pe_bltn (v := V.ty "tuple") (by rfl) T.tuple boot_tuple rfl) pa_nil))))) (pw_or1 (pt_not (pt_val (pe_callB (r := rAll K) (cr_all rfl) (by rfl) T.all boot_all (pa_cons (pe_lc (own := [(("item" : Str), 2)]) (g := gName 2) (tt := tYes) rfl sc_is_habit_row.nd (pi_tup (pv 1)) (blkOk_by (own := [(("item" : Str), 2)]) (N := ["columns", "thing", "item", "at"]) (sc := defScope (top 36)) (by decide +kernel)) (fun _ _ _ _ _ => (pg_name (i := 2) sc_is_habit_row.nd rfl (.inl rfl))) (fun _ _ _ _ _ => pts_nil) (fun _ _ _ _ _ => (pe_and (pe_callF G_is_pair (hr.mono (by decide)) (pa_cons (pv 2) pa_nil)) (pe_one (pe_callF G_is_pattern (hr.mono (by decide)) (pa_cons (pv 0) (pa_cons (pe_ix (r := rIxT K) ix_tup (pv 2) pe_int (fun _ _ => rfl)) pa_nil))))))) pa_nil)))))).pt (pss_one (ps_ret pe_bl)) pss_nil)
      (pss_cons (ps_if (pt_not (pt_val (pe_callB (r := rAll K) (cr_all rfl) (by rfl) T.all boot_all (pa_cons (pe_lc (own := [(("item" : Str), 2)]) (g := gName 2) (tt := tYes) rfl sc_is_habit_row.nd (pi_tup (pv 1)) (blkOk_by (own := [(("item" : Str), 2)]) (N := ["columns", "thing", "item", "at"]) (sc := defScope (top 36)) (by decide +kernel)) (fun _ _ _ _ _ => (pg_name (i := 2) sc_is_habit_row.nd rfl (.inl rfl))) (fun _ _ _ _ _ => pts_nil) (fun _ _ _ _ _ => (pe_and (pe_callF G_is_share (hr.mono (by decide)) (pa_cons (pe_ix (r := rIxT K) ix_tup (pv 2) pe_int (fun _ _ => rfl)) pa_nil)) (pe_one (pe_cmpR (r := rEqT K true) (op_neT hu64) (pe_ix (r := rIxT K) ix_tup (pv 2) pe_int (fun _ _ => rfl)) (pe_glob (v := V.ref aN) (by rfl) T.gNOTHING rfl) (nomark _)))))) pa_nil)))) (pss_one (ps_ret pe_bl)) pss_nil)
      (pss_cons (ps_if (pt_not (pt_val (pe_callB (r := rAll K) (cr_all rfl) (by rfl) T.all boot_all (pa_cons (pe_lc (own := [(("at" : Str), 3)]) (g := gName 3) (tt := tYes) rfl sc_is_habit_row.nd (pi_range2 (by rfl) T.range (pa_cons pe_int (pa_cons (pe_callB (r := rLenS K) call_len_seq (by rfl) T.len boot_len (pa_cons (pv 1) pa_nil)) pa_nil))) (blkOk_by (own := [(("at" : Str), 3)]) (N := ["columns", "thing", "item", "at"]) (sc := defScope (top 36)) (by decide +kernel)) (fun _ _ _ _ _ => (pg_name (i := 3) sc_is_habit_row.nd rfl (.inl rfl))) (fun _ _ _ _ _ => pts_nil) (fun _ _ _ _ _ => (pe_cmpR (r := rLtT K) (op_ltT hu0) (pe_ix (r := rIxT K) ix_tup (pe_ix (r := rIxT K) ix_tup (pv 1) (pe_op op_sub (pv 3) pe_int) (fun _ _ => rfl)) pe_int (fun _ _ => rfl)) (pe_ix (r := rIxT K) ix_tup (pe_ix (r := rIxT K) ix_tup (pv 1) (pv 3) (fun _ _ => rfl)) pe_int (fun _ _ => rfl)) (nomark _)))) pa_nil)))) (pss_one (ps_ret pe_bl)) pss_nil)
      (pss_one (ps_ret (pe_cmpR (r := rEqT K false) (op_eqT hu64) (pe_callF G_total (hr.mono (by decide)) (pa_cons (pe_lc (own := [(("item" : Str), 2)]) (g := gName 2) (tt := tYes) rfl sc_is_habit_row.nd (pi_tup (pv 1)) (blkOk_by (own := [(("item" : Str), 2)]) (N := ["columns", "thing", "item", "at"]) (sc := defScope (top 36)) (by decide +kernel)) (fun _ _ _ _ _ => (pg_name (i := 2) sc_is_habit_row.nd rfl (.inl rfl))) (fun _ _ _ _ _ => pts_nil) (fun _ _ _ _ _ => (pe_ix (r := rIxT K) ix_tup (pv 2) pe_int (fun _ _ => rfl)))) pa_nil)) (pe_glob (v := V.ref aO) (by rfl) T.gONE rfl) (nomark _))))))), ?_⟩
  obtain ⟨v, u, rfl, d1, d2⟩ := tva2 hd
  cases d1.num
  have v1 : ∀ {H'}, Ex H H' → EvD K (tVar 1) (start ["columns", "thing", "item", "at"] [V.int (n : Int), u]) H' (eR (rowE B r)) := fun e => evd_var rfl (d2.ex e)
  have hlen : ((rowE B r).map eP).length = r.length := rowE_len
  have hgl := g.len
  -- pairs, patterns
  refine q_when (b := false) (et_false_or (et_nt (ev_isiTup (v1 (Ex.refl H)) ev_c)) (et_nt ?_)) (fun h => by cases h) fun _ H1 e1 => ?_
  · refine ev_allTrue (evi_tupD (v1 (Ex.refl H))) (by rw [hlen]; omega) fun i x H2 hi e2 ⟨d, hd', tv⟩ => gvg_name ⟨rfl, ?_⟩
    obtain ⟨y, hy, rfl⟩ := rowE_get hd'
    have hp := g.pat y (List.mem_of_getElem? hy)
    have x0 : EvD K _ _ H2 _ := ev_ix0 (evd_var (i := 2) (σ := [some (V.int (n : Int)), some u, some x, none]) rfl tv) ev_c
    exact ev_andV (a := true) (b := true) (evp_callD (ead_cons (evd_var rfl tv) ead_nil) ⟨_, _, rfl, rfl⟩).ev fun _ => (evp_callD (ead_cons (evd_i (ev_var rfl)) (ead_cons x0 ead_nil)) ⟨n, y.1, rfl, hp.1, hp.2, rfl⟩).ev
  -- shares
  refine q_when (b := false) (et_nt ?_) (fun h => by cases h) fun _ H2 e2 => ?_
  · refine ev_allTrue (evi_tupD (v1 e1)) (by rw [hlen]; omega) fun i x H2 hi e2 ⟨d, hd', tv⟩ => gvg_name ⟨rfl, ?_⟩
    obtain ⟨y, hy, rfl⟩ := rowE_get hd'
    have hk := g.num y (List.mem_of_getElem? hy)
    have x1 : EvD K _ _ H2 _ := ev_ix1 (evd_var (i := 2) (σ := [some (V.int (n : Int)), some u, some x, none]) rfl tv) ev_c
    refine ev_andV (a := true) (b := true) (evp_callD (ead_cons x1 ead_nil) ⟨_, _, rfl, lw_pos h1, lw_cop h1, lw_nonneg h1 (by omega), lw_le_bot h1 hk.2, rfl⟩).ev fun _ => ?_
    refine Ev.cast (ev_eqT (neg := true) x1 (e := eF (0, 1)) (.of ev_c fun H3 _ => T.tN H3) (by rw [depth_eF]; decide) (by rw [depth_eF]; decide)) ?_
    have : eF (lw y.2 B) ≠ eF (0, 1) := fun z => by
      have := (lw_ne_zero h1).mp (eF_inj z)
      omega
    simp [this]
  have e12 := e1.trans e2
  have hlenE : ∀ {H'}, Ex H H' → Ev (tCB (rLenS K) (tCons (tVar 1) tNil)) (start ["columns", "thing", "item", "at"] [V.int (n : Int), u]) H' (.int (r.length : Int)) := fun e => Ev.castI (ev_lenD (v1 e)) (by rw [hlen])
  -- ascending
  refine q_when (b := false) (et_nt ?_) (fun h => by cases h) fun _ H3 e3 => ?_
  · refine ev_allTrue (evi_rng2 (lo := 1) (m := r.length) (ea_cons ev_c (ea_cons (hlenE e12) ea_nil)) (by omega) (by omega)) (by omega) fun i x H3 hi e3 hx => ?_
    cases hx
    refine gvg_name ⟨rfl, ?_⟩
    obtain ⟨a, hga⟩ : ∃ a, r[i]? = some a := ⟨r[i]'(by omega), List.getElem?_eq_getElem _⟩
    obtain ⟨b, hgb⟩ : ∃ b, r[i + 1]? = some b := ⟨r[i + 1]'(by omega), List.getElem?_eq_getElem _⟩
    have z0 : ((1 + i : Nat) : Int) - 1 = (i : Int) := by omega
    have z1 : ((1 + i : Nat) : Int) = ((i + 1 : Nat) : Int) := by omega
    have q0 := d2.ex (e12.trans e3)
    refine Ev.cast (ev_ltL (ev_ix0 (evd_ix (i := i) (evd_var rfl q0) (Ev.castI (ev_op (ev_var rfl) ev_c rv_I0) z0) (rowE_at hga)) ev_c) (ev_ix0 (evd_ix (i := i + 1) (evd_var rfl q0) (Ev.castI (ev_var rfl) z1) (rowE_at hgb)) ev_c)) ?_
    exact List.pairwise_iff_getElem.mp g.asc i (i + 1) (by omega) (by omega) (by omega) |> fun z => by
      have ea : r[i]'(by omega) = a := by
        have := List.getElem?_eq_getElem (l := r) (i := i) (by omega)
        rw [hga] at this
        exact (Option.some.inj this).symm
      have eb : r[i + 1]'(by omega) = b := by
        have := List.getElem?_eq_getElem (l := r) (i := i + 1) (by omega)
        rw [hgb] at this
        exact (Option.some.inj this).symm
      rw [ea, eb] at z
      exact z
  have e123 := e12.trans e3
  -- the sum
  refine sp_ret (P := IsV (.bl true)) (evp_v ?_) fun v H2 e2 p => k v H2 (e123.trans e2) p
  have hL := evp_lcD (K := K) (σ := start ["columns", "thing", "item", "at"] [V.int (n : Int), u]) (H := H3) (te := tOp (rIxT K) (tVar 2) (L2.tC (.int 1))) (g := gName 2) (tt := tYes) (vs := [2]) (wi := iTup K (tVar 1)) (Y := fun i v H => ∃ d, ((rowE B r).map eP)[i]? = some d ∧ Tv K H v d) r (fun _ => true) (fun x => eF (lw x.2 B))
    (by have := evi_tupD (v1 e123); rw [hlen] at this; exact this) (by omega) (fun i y x H4 hy e4 ⟨d, hd', tv⟩ => by
      obtain ⟨y', hy', rfl⟩ := rowE_get hd'
      rw [hy] at hy'
      cases hy'
      exact gvg_name ⟨rfl, et_yes, fun _ => ev_ix1 (evd_var rfl tv) ev_c⟩)
  rw [List.filter_eq_self.mpr (fun _ _ => rfl)] at hL
  have hT : EvD K _ (start ["columns", "thing", "item", "at"] [V.int (n : Int), u]) H3 (eF (lw B B)) := evp_call (P := IsD K (eF (lw B B))) (F := fTotal K) (E := EN) (eap_cons hL sty_LD eap_nil) fun vs H4 e4 ⟨v, ws, ev, ⟨l, ys, el, hl, tl⟩, ew⟩ => ⟨_, ⟨l, ys, r.map (·.2), B, by rw [ev, ew, el], hl, by rw [List.map_map]; exact tl, h1, h2, rfl⟩, fun v H5 e5 p => by
    rw [g.sum] at p
    exact p⟩
  refine Ev.cast (ev_eqT (neg := false) hT (e := eF (1, 1)) (.of ev_c fun H4 _ => T.tO H4) (by rw [depth_eF]; decide) (by rw [depth_eF]; decide)) ?_
  rw [lw_one h1]
  simp
end
end FM
/-! Dicts of boxes and the rows they stand for, in plain Lean. -/
namespace FM
abbrev Bx := List Int × List Int
abbrev Bks := List (Bx × Int)
theorem perm_of {α : Type} [DecidableEq α] : ∀ {l m : List α}, l.Nodup → m.Nodup → (∀ x, x ∈ l ↔ x ∈ m) → l.Perm m
  | [], [], _, _, _ => .nil
  | [], b :: m, _, _, h => by
    have := (h b).mpr List.mem_cons_self
    cases this
  | a :: l, m, hl, hm, h => by
    have ha : a ∈ m := (h a).mp List.mem_cons_self
    have hl' := List.nodup_cons.mp hl
    refine List.Perm.trans ?_ (List.perm_cons_erase ha).symm
    refine .cons a (perm_of hl'.2 (hm.erase a) fun x => ?_)
    rw [hm.mem_erase_iff]
    constructor
    · intro hx
      exact ⟨fun e => hl'.1 (e ▸ hx), (h x).mp (List.mem_cons_of_mem _ hx)⟩
    · intro ⟨hne, hx⟩
      rcases List.mem_cons.mp ((h x).mpr hx) with e | hx'
      · exact absurd e hne
      · exact hx'
/-- in l, no two of one key -/
theorem key_one {α β : Type} : ∀ {l : List (α × β)}, (l.map (·.1)).Nodup → ∀ {x y : α × β}, x ∈ l → y ∈ l → x.1 = y.1 → x = y
  | [], _, _, _, hx, _, _ => by cases hx
  | z :: l, hn, x, y, hx, hy, e => by
    have hn' := List.nodup_cons.mp hn
    rcases List.mem_cons.mp hx with ex | hx
    · rcases List.mem_cons.mp hy with ey | hy
      · rw [ex, ey]
      · exact absurd (List.mem_map.mpr ⟨y, hy, by rw [← e, ex]⟩) hn'.1
    · rcases List.mem_cons.mp hy with ey | hy
      · exact absurd (List.mem_map.mpr ⟨x, hx, by rw [e, ey]⟩) hn'.1
      · exact key_one hn'.2 hx hy e
theorem nodup_of_keys {α β : Type} {l : List (α × β)} (h : (l.map (·.1)).Nodup) : l.Nodup := by
  have := List.pairwise_map.mp h
  exact this.imp fun {a b} hab e => hab (by rw [e])
theorem sum_nonneg : ∀ {l : List Int}, (∀ x ∈ l, 0 ≤ x) → 0 ≤ l.sum
  | [], _ => by simp
  | a :: l, h => by
    have h1 := h a List.mem_cons_self
    have h2 := sum_nonneg (l := l) fun x hx => h x (List.mem_cons_of_mem _ hx)
    rw [List.sum_cons]
    omega
theorem le_sum : ∀ {l : List Int}, (∀ x ∈ l, 0 ≤ x) → ∀ x ∈ l, x ≤ l.sum
  | a :: l, h, x, hx => by
    have h1 := h a List.mem_cons_self
    have h2 := sum_nonneg (l := l) fun x hx => h x (List.mem_cons_of_mem _ hx)
    rw [List.sum_cons]
    rcases List.mem_cons.mp hx with e | hx
    · omega
    · have := le_sum (l := l) (fun x hx => h x (List.mem_cons_of_mem _ hx)) x hx
      omega
theorem sum_filter {α : Type} (f : α → Int) : ∀ l : List α, ((l.filter fun x => decide (f x ≠ 0)).map f).sum = (l.map f).sum
  | [] => rfl
  | a :: l => by
    rw [List.filter_cons]
    by_cases h : f a = 0
    · rw [if_neg (by simp [h]), List.map_cons, List.sum_cons, h, sum_filter f l]
      omega
    · rw [if_pos (by simp [h]), List.map_cons, List.map_cons, List.sum_cons, List.sum_cons, sum_filter f l]
theorem sum_perm {l m : List Int} (h : l.Perm m) : l.sum = m.sum := by
  induction h with
  | nil => rfl
  | cons x _ ih => rw [List.sum_cons, List.sum_cons, ih]
  | swap x y l => rw [List.sum_cons, List.sum_cons, List.sum_cons, List.sum_cons]; omega
  | trans _ _ h1 h2 => rw [h1, h2]

/-- the content lies in the box -/
def inC (c : List Int) (x : Bx × Int) : Bool := decide (proj x.1.1 c = x.1.2)
def spent (kvs : Bks) (c : List Int) : Int := ((kvs.filter (inC c)).map (·.2)).sum
def rowM (kvs : Bks) (c : List Int) : Row := (kvs.filter (inC c)).map fun x => (x.1.1, x.2)
def shown (n : Nat) (B : Int) (kvs : Bks) (c : List Int) : Row := rowM kvs c ++ [(allC n, B - spent kvs c)]
def rowOf (n : Nat) (B : Int) (kvs : Bks) (c : List Int) : Row := (pats n).filterMap fun p => (shown n B kvs c).find? fun x => decide (x.1 = p) && decide (x.2 ≠ 0)
/-- a good dict -/
structure Gd (ns : List Nat) (B : Int) (kvs : Bks) : Prop where
  sz : ns ∈ allSizes
  bot : 0 < B ∧ B ≤ 12
  nd : (kvs.map (·.1)).Nodup
  key : ∀ x ∈ kvs, x.1.1 ∈ pats ns.length ∧ x.1.1.length < ns.length ∧ ∃ c ∈ contents ns, x.1.2 = proj x.1.1 c
  num : ∀ x ∈ kvs, 0 ≤ x.2
  sum : ∀ c ∈ contents ns, spent kvs c ≤ B
  len : kvs.length ≤ 900
theorem allC_len (n : Nat) : (allC n).length = n := by unfold allC; rw [List.length_map, List.length_range]
theorem Gd.col {ns : List Nat} {B : Int} {kvs : Bks} (g : Gd ns B kvs) : ns.length ≤ 5 ∧ 1 ≤ ns.length := (contents_facts ns g.sz).2.2.2.2.2.1
theorem mem_rowM {kvs : Bks} {c : List Int} {x : List Int × Int} : x ∈ rowM kvs c ↔ ((x.1, proj x.1 c), x.2) ∈ kvs := by
  unfold rowM
  rw [List.mem_map]
  constructor
  · rintro ⟨y, hy, rfl⟩
    obtain ⟨h1, h2⟩ := List.mem_filter.mp hy
    have e := of_decide_eq_true h2
    show ((y.1.1, proj y.1.1 c), y.2) ∈ kvs
    rw [e]
    exact h1
  · intro h
    exact ⟨_, List.mem_filter.mpr ⟨h, decide_eq_true rfl⟩, rfl⟩
section
variable {ns : List Nat} {B : Int} {kvs : Bks} {c : List Int}
theorem Gd.ne_all (g : Gd ns B kvs) {x : List Int × Int} (h : x ∈ rowM kvs c) : x.1 ≠ allC ns.length := fun e => by
  have := (g.key _ (mem_rowM.mp h)).2.1
  show False
  have l : x.1.length < ns.length := this
  rw [e, allC_len] at l
  omega
theorem Gd.rowM_nd (g : Gd ns B kvs) : ((rowM kvs c).map (·.1)).Nodup := by
  unfold rowM
  rw [List.map_map]
  have h : (kvs.filter (inC c)).Pairwise fun a b => a.1 ≠ b.1 := (List.pairwise_map.mp g.nd).filter _
  rw [List.Nodup, List.pairwise_map]
  refine List.Pairwise.imp_of_mem (fun {a b} ha hb hab e => hab ?_) h
  have e1 := of_decide_eq_true (List.mem_filter.mp ha).2
  have e2 := of_decide_eq_true (List.mem_filter.mp hb).2
  have e' : a.1.1 = b.1.1 := e
  exact Prod.ext e' (by rw [← e1, ← e2, e'])
theorem Gd.shown_nd (g : Gd ns B kvs) : ((shown ns.length B kvs c).map (·.1)).Nodup := by
  unfold shown
  rw [List.map_append]
  refine List.nodup_append.mpr ⟨g.rowM_nd, by simp, fun a ha b hb e => ?_⟩
  obtain ⟨x, hx, rfl⟩ := List.mem_map.mp ha
  have hb' : b = allC ns.length := by simpa using hb
  exact g.ne_all hx (e.trans hb')
theorem Gd.mem_row (g : Gd ns B kvs) (x : List Int × Int) : x ∈ rowOf ns.length B kvs c ↔ x ∈ shown ns.length B kvs c ∧ x.2 ≠ 0 := by
  unfold rowOf
  rw [List.mem_filterMap]
  constructor
  · rintro ⟨p, hp, h⟩
    have h1 := List.mem_of_find?_eq_some h
    have h2 := List.find?_some h
    rw [Bool.and_eq_true] at h2
    exact ⟨h1, of_decide_eq_true h2.2⟩
  · rintro ⟨h1, h2⟩
    have hp : x.1 ∈ pats ns.length := by
      unfold shown at h1
      rcases List.mem_append.mp h1 with h | h
      · exact (g.key _ (mem_rowM.mp h)).1
      · have e : x = (allC ns.length, B - spent kvs c) := by simpa using h
        rw [e]
        have := (pats_facts ns.length g.col.1).2.2.2.2.2.1
        simpa using this
    refine ⟨x.1, hp, ?_⟩
    cases hf : (shown ns.length B kvs c).find? fun y => decide (y.1 = x.1) && decide (y.2 ≠ 0) with
    | none =>
      have := List.find?_eq_none.mp hf x h1
      simp [h2] at this
    | some y =>
      have h3 := List.mem_of_find?_eq_some hf
      have h4 := List.find?_some hf
      rw [Bool.and_eq_true] at h4
      rw [key_one g.shown_nd h3 h1 (of_decide_eq_true h4.1)]
theorem Gd.row_asc (g : Gd ns B kvs) : (rowOf ns.length B kvs c).Pairwise fun p q => lexL p.1 q.1 = true := by
  unfold rowOf
  refine List.Pairwise.filterMap _ (fun a a' haa b hb b' hb' => ?_) (pats_facts ns.length g.col.1).1
  have h1 := List.find?_some hb
  have h2 := List.find?_some hb'
  rw [Bool.and_eq_true] at h1 h2
  rw [of_decide_eq_true h1.1, of_decide_eq_true h2.1]
  exact haa
theorem Gd.spent_nonneg (g : Gd ns B kvs) : 0 ≤ spent kvs c := by
  unfold spent
  refine sum_nonneg fun x hx => ?_
  obtain ⟨y, hy, rfl⟩ := List.mem_map.mp hx
  exact g.num y (List.mem_filter.mp hy).1
theorem Gd.shown_num (g : Gd ns B kvs) (hc : c ∈ contents ns) : ∀ x ∈ shown ns.length B kvs c, 0 ≤ x.2 ∧ x.2 ≤ B := by
  intro x hx
  have h0 := g.spent_nonneg (c := c)
  have h1 := g.sum c hc
  unfold shown at hx
  rcases List.mem_append.mp hx with h | h
  · have hk := mem_rowM.mp h
    have h2 := g.num _ hk
    have : x.2 ≤ spent kvs c := by
      unfold spent
      refine le_sum (fun y hy => ?_) _ (List.mem_map.mpr ⟨_, List.mem_filter.mpr ⟨hk, decide_eq_true rfl⟩, rfl⟩)
      obtain ⟨z, hz, rfl⟩ := List.mem_map.mp hy
      exact g.num z (List.mem_filter.mp hz).1
    exact ⟨h2, by omega⟩
  · have e : x = (allC ns.length, B - spent kvs c) := by simpa using h
    rw [e]
    exact ⟨by show 0 ≤ B - spent kvs c; omega, by show B - spent kvs c ≤ B; omega⟩
theorem shown_sum (n : Nat) (B : Int) (kvs : Bks) (c : List Int) : ((shown n B kvs c).map (·.2)).sum = B := by
  unfold shown rowM
  rw [List.map_append, List.sum_append, List.map_map]
  show ((kvs.filter (inC c)).map (·.2)).sum + (B - spent kvs c + 0) = B
  unfold spent
  omega
theorem Gd.good (g : Gd ns B kvs) (hc : c ∈ contents ns) : GoodRow ns.length B (rowOf ns.length B kvs c) := by
  have hp : ∀ x ∈ rowOf ns.length B kvs c, x.1 ∈ pats ns.length := fun x hx => by
    unfold rowOf at hx
    obtain ⟨p, hp, h⟩ := List.mem_filterMap.mp hx
    have h2 := List.find?_some h
    rw [Bool.and_eq_true] at h2
    rw [of_decide_eq_true h2.1]
    exact hp
  refine ⟨g.row_asc, fun x hx => ?_, fun x hx => ?_, ?_, ?_⟩
  · have := pats_ok g.col.1 (hp x hx)
    exact ⟨this.1, by omega⟩
  · obtain ⟨h1, h2⟩ := (g.mem_row x).mp hx
    have := g.shown_num hc x h1
    omega
  · have hn : (rowOf ns.length B kvs c).Nodup := g.row_asc.imp fun {a b} h e => by
      rw [e, lexL_self] at h
      cases h
    have hs : ((shown ns.length B kvs c).filter fun x => decide (x.2 ≠ 0)).Nodup := (nodup_of_keys g.shown_nd).filter _
    have pm : (rowOf ns.length B kvs c).Perm ((shown ns.length B kvs c).filter fun x => decide (x.2 ≠ 0)) := perm_of hn hs fun x => by
      rw [g.mem_row, List.mem_filter, decide_eq_true_eq]
    rw [sum_perm (pm.map _), sum_filter, shown_sum]
  · have : (rowOf ns.length B kvs c).length ≤ (pats ns.length).length := List.length_filterMap_le _ _
    have := (pats_facts ns.length g.col.1).2.2.2.2.2.2
    omega
/-- only the nonzero entries count -/
theorem Gd.same {m : Bks} (g : Gd ns B kvs) (hn : (m.map (·.1)).Nodup) (h : ∀ x, x ∈ m ↔ x ∈ kvs ∧ x.2 ≠ 0) : Gd ns B m ∧ ∀ c ∈ contents ns, rowOf ns.length B m c = rowOf ns.length B kvs c := by
  have hsp : ∀ c, spent m c = spent kvs c := fun c => by
    unfold spent
    have pm : (m.filter (inC c)).Perm ((kvs.filter (inC c)).filter fun x => decide (x.2 ≠ 0)) := perm_of ((nodup_of_keys hn).filter _) (((nodup_of_keys g.nd).filter _).filter _) fun x => by
      rw [List.mem_filter, List.mem_filter, List.mem_filter, h, decide_eq_true_eq]
      constructor
      · rintro ⟨⟨h1, h2⟩, h3⟩
        exact ⟨⟨h1, h3⟩, h2⟩
      · rintro ⟨⟨h1, h2⟩, h3⟩
        exact ⟨⟨h1, h3⟩, h2⟩
    rw [sum_perm (pm.map _), sum_filter]
  have hl : m.length ≤ kvs.length := by
    have pm : m.Perm (kvs.filter fun x => decide (x.2 ≠ 0)) := perm_of (nodup_of_keys hn) ((nodup_of_keys g.nd).filter _) fun x => by
      rw [List.mem_filter, h, decide_eq_true_eq]
    rw [pm.length_eq]
    exact List.length_filter_le _ _
  have gm : Gd ns B m := ⟨g.sz, g.bot, hn, fun x hx => g.key x ((h x).mp hx).1, fun x hx => g.num x ((h x).mp hx).1, fun c hc => by rw [hsp]; exact g.sum c hc, Nat.le_trans hl g.len⟩
  refine ⟨gm, fun c hc => ?_⟩
  refine sorted_one (R := fun p q => lexL p.1 q.1 = true) (fun a b h1 h2 => by rw [lexL_asym h1] at h2; cases h2) gm.row_asc g.row_asc fun x => ?_
  rw [gm.mem_row, g.mem_row]
  unfold shown
  rw [List.mem_append, List.mem_append, mem_rowM, mem_rowM, h, hsp]
  constructor
  · rintro ⟨h1 | h1, h2⟩
    · exact ⟨.inl h1.1, h2⟩
    · exact ⟨.inr h1, h2⟩
  · rintro ⟨h1 | h1, h2⟩
    · exact ⟨.inl ⟨h1, h2⟩, h2⟩
    · exact ⟨.inr h1, h2⟩
end
end FM
/-! Shares by pattern, fairness, the boxes told, the law's own row, in plain Lean. -/
namespace FM
theorem con_ok {ns : List Nat} (hs : ns ∈ allSizes) {c : List Int} (hc : c ∈ contents ns) : c.length = ns.length ∧ ∀ i, i < ns.length → 0 ≤ c.getD i 0 ∧ c.getD i 0 < (ns.getD i 0 : Int) := by
  have := (contents_facts ns hs).2.2.2.2.1
  rw [List.all_eq_true] at this
  have := this c hc
  unfold okC at this
  rw [Bool.and_eq_true, List.all_eq_true] at this
  refine ⟨of_decide_eq_true this.1, fun i hi => ?_⟩
  have := this.2 i (List.mem_range.mpr hi)
  simpa using this
theorem pat_in {n : Nat} {p c : List Int} (hp : Pat n p) (hl : c.length = n) : ∀ i ∈ p, 0 ≤ i ∧ i.toNat < c.length := fun i hi => by
  have := hp.2 i hi
  omega
theorem proj_all {n : Nat} {c : List Int} (h : c.length = n) : proj (allC n) c = c := by
  unfold proj allC
  rw [List.map_map]
  refine List.ext_getElem (by rw [List.length_map, List.length_range, h]) fun i h1 h2 => ?_
  rw [List.getElem_map]
  have hi : i < (List.range n).length := by rw [List.length_map] at h1; exact h1
  show c.getD (((List.range n)[i]'hi : Nat) : Int).toNat 0 = c[i]
  rw [List.getElem_range, Int.toNat_natCast, List.getD_eq_getElem?_getD, List.getElem?_eq_getElem h2]
  rfl
theorem allC_pat {n : Nat} (hn : n ≤ 5) : allC n ∈ pats n := by
  have := (pats_facts n hn).2.2.2.2.2.1
  simpa using this
/-- the numerator of a pattern in a row -/
def shareN (r : Row) (p : List Int) : Int := match r.find? fun x => decide (x.1 = p) with
  | some x => x.2
  | none => 0
section
variable {ns : List Nat} {B : Int} {kvs : Bks} {c : List Int}
theorem Gd.row_box (g : Gd ns B kvs) {x : List Int × Int} (hx : x.1 ≠ allC ns.length) : x ∈ rowOf ns.length B kvs c ↔ ((x.1, proj x.1 c), x.2) ∈ kvs ∧ x.2 ≠ 0 := by
  rw [g.mem_row]
  unfold shown
  rw [List.mem_append, mem_rowM]
  constructor
  · rintro ⟨h1 | h1, h2⟩
    · exact ⟨h1, h2⟩
    · have e : x = (allC ns.length, B - spent kvs c) := by simpa using h1
      exact absurd (by rw [e]) hx
  · rintro ⟨h1, h2⟩
    exact ⟨.inl h1, h2⟩
theorem shareN_ne {r : Row} (hn : (r.map (·.1)).Nodup) {p : List Int} {k : Int} (hk : k ≠ 0) : shareN r p = k ↔ (p, k) ∈ r ∨ False := by
  unfold shareN
  cases hf : r.find? fun x => decide (x.1 = p) with
  | none =>
    constructor
    · intro h
      exact absurd h.symm hk
    · rintro (h | h)
      · have := List.find?_eq_none.mp hf _ h
        simp at this
      · cases h
  | some y =>
    have h1 := List.mem_of_find?_eq_some hf
    have h2 := List.find?_some hf
    have h2' := of_decide_eq_true h2
    constructor
    · intro h
      refine .inl ?_
      have : y = (p, k) := Prod.ext h2' h
      rw [← this]
      exact h1
    · rintro (h | h)
      · have := key_one hn h1 h h2'
        rw [this]
      · cases h
theorem Gd.row_keys (g : Gd ns B kvs) : ((rowOf ns.length B kvs c).map (·.1)).Nodup := by
  rw [List.Nodup, List.pairwise_map]
  exact g.row_asc.imp fun {a b} h e => by
    rw [e, lexL_self] at h
    cases h
/-- FAIR: the same box, the same share -/
theorem Gd.fair (g : Gd ns B kvs) {p c d : List Int} (hc : c ∈ contents ns) (hd : d ∈ contents ns) (h : proj p c = proj p d) : shareN (rowOf ns.length B kvs c) p = shareN (rowOf ns.length B kvs d) p := by
  by_cases hp : p = allC ns.length
  · subst hp
    rw [proj_all (con_ok g.sz hc).1, proj_all (con_ok g.sz hd).1] at h
    rw [h]
  · have key : ∀ k, k ≠ 0 → (shareN (rowOf ns.length B kvs c) p = k ↔ shareN (rowOf ns.length B kvs d) p = k) := fun k hk => by
      rw [shareN_ne g.row_keys hk, shareN_ne g.row_keys hk, g.row_box (x := (p, k)) hp, g.row_box (x := (p, k)) hp, h]
    by_cases h1 : shareN (rowOf ns.length B kvs c) p = 0
    · by_cases h2 : shareN (rowOf ns.length B kvs d) p = 0
      · rw [h1, h2]
      · exact (key _ h2).mpr rfl
    · exact ((key _ h1).mp rfl).symm
/-- the boxes told of a habit -/
theorem Gd.told (g : Gd ns B kvs) (x : Bx × Int) : (∃ c ∈ contents ns, ∃ y ∈ rowOf ns.length B kvs c, y.1 ≠ allC ns.length ∧ x = ((y.1, proj y.1 c), y.2)) ↔ x ∈ kvs ∧ x.2 ≠ 0 := by
  constructor
  · rintro ⟨c, hc, y, hy, hne, rfl⟩
    exact (g.row_box hne).mp hy
  · rintro ⟨hx, h0⟩
    obtain ⟨h1, h2, c, hc, e⟩ := g.key x hx
    have hne : x.1.1 ≠ allC ns.length := fun z => by
      rw [z, allC_len] at h2
      omega
    refine ⟨c, hc, (x.1.1, x.2), (g.row_box (x := (x.1.1, x.2)) hne).mpr ⟨?_, h0⟩, hne, ?_⟩
    · show ((x.1.1, proj x.1.1 c), x.2) ∈ kvs
      rw [← e]
      exact hx
    · show x = ((x.1.1, proj x.1.1 c), x.2)
      rw [← e]
/-- the law's own row -/
def lawRow (n : Nat) (B : Int) (kvs : Bks) (c : List Int) : Row := ((kvs.filter fun x => inC c x && decide (0 < x.2)).map fun x => (x.1.1, x.2)) ++ if 0 < B - spent kvs c then [(allC n, B - spent kvs c)] else []
theorem Gd.law_mem (g : Gd ns B kvs) (hc : c ∈ contents ns) (x : List Int × Int) : x ∈ lawRow ns.length B kvs c ↔ x ∈ rowOf ns.length B kvs c := by
  rw [g.mem_row]
  unfold lawRow shown
  rw [List.mem_append, List.mem_append, mem_rowM, List.mem_map]
  have hs := g.sum c hc
  constructor
  · rintro (⟨y, hy, rfl⟩ | h)
    · obtain ⟨h1, h2⟩ := List.mem_filter.mp hy
      rw [Bool.and_eq_true] at h2
      have e := of_decide_eq_true h2.1
      have hp := of_decide_eq_true h2.2
      refine ⟨.inl ?_, by show y.2 ≠ 0; omega⟩
      show ((y.1.1, proj y.1.1 c), y.2) ∈ kvs
      rw [e]
      exact h1
    · by_cases h0 : 0 < B - spent kvs c
      · rw [if_pos h0] at h
        have e : x = (allC ns.length, B - spent kvs c) := by simpa using h
        refine ⟨.inr h, ?_⟩
        rw [e]
        show B - spent kvs c ≠ 0
        omega
      · rw [if_neg h0] at h
        cases h
  · rintro ⟨h1 | h1, h2⟩
    · have := g.num _ h1
      have h3 : 0 ≤ x.2 := this
      exact .inl ⟨_, List.mem_filter.mpr ⟨h1, by rw [Bool.and_eq_true]; exact ⟨decide_eq_true rfl, decide_eq_true (by show 0 < x.2; omega)⟩⟩, rfl⟩
    · have e : x = (allC ns.length, B - spent kvs c) := by simpa using h1
      rw [e] at h2
      have h3 : B - spent kvs c ≠ 0 := h2
      refine .inr ?_
      rw [if_pos (by omega)]
      exact h1
theorem Gd.law_keys (g : Gd ns B kvs) : ((lawRow ns.length B kvs c).map (·.1)).Nodup := by
  unfold lawRow
  rw [List.map_append]
  have e : kvs.filter (fun x => inC c x && decide (0 < x.2)) = (kvs.filter (inC c)).filter fun x => decide (0 < x.2) := by
    rw [List.filter_filter]
    refine List.filter_congr fun x _ => ?_
    rw [Bool.and_comm]
  have h1 : ((((kvs.filter fun x => inC c x && decide (0 < x.2)).map fun x => (x.1.1, x.2)) : Row).map (·.1)).Nodup := by
    rw [e, List.map_map, List.Nodup, List.pairwise_map]
    have := g.rowM_nd (c := c)
    unfold rowM at this
    rw [List.map_map, List.Nodup, List.pairwise_map] at this
    exact this.filter _
  refine List.nodup_append.mpr ⟨h1, ?_, fun a ha b hb z => ?_⟩
  · split
    · simp
    · simp
  · by_cases h0 : 0 < B - spent kvs c
    · rw [if_pos h0] at hb
      have hb' : b = allC ns.length := by simpa using hb
      obtain ⟨x, hx, rfl⟩ := List.mem_map.mp ha
      obtain ⟨y, hy, rfl⟩ := List.mem_map.mp hx
      have hk := g.key y (List.mem_filter.mp hy).1
      have l : y.1.1.length < ns.length := hk.2.1
      have e2 : y.1.1 = allC ns.length := z.trans hb'
      rw [e2, allC_len] at l
      omega
    · rw [if_neg h0] at hb
      cases hb
/-- a sorted list of the law's row is the row -/
theorem Gd.law_row (g : Gd ns B kvs) (hc : c ∈ contents ns) {qs : Row} (h1 : qs.Perm (lawRow ns.length B kvs c)) (h2 : qs.Pairwise fun p q => lexL p.1 q.1 = true) : qs = rowOf ns.length B kvs c :=
  sorted_one (R := fun p q => lexL p.1 q.1 = true) (fun a b h1 h2 => by rw [lexL_asym h1] at h2; cases h2) h2 g.row_asc fun x => by rw [h1.mem_iff, g.law_mem hc]
theorem law_spent (kvs : Bks) (c : List Int) (h : ∀ x ∈ kvs, 0 ≤ x.2) : ((kvs.filter fun x => inC c x && decide (0 < x.2)).map (·.2)).sum = spent kvs c := by
  have e : kvs.filter (fun x => inC c x && decide (0 < x.2)) = (kvs.filter (inC c)).filter fun x => decide (x.2 ≠ 0) := by
    rw [List.filter_filter]
    refine List.filter_congr fun x hx => ?_
    have := h x hx
    by_cases h1 : x.2 = 0
    · simp [h1]
    · have : 0 < x.2 := by omega
      simp [h1, this]
  rw [e, sum_filter]
  rfl
end
/-- the whole habit -/
theorem gd_nil {ns : List Nat} (hs : ns ∈ allSizes) : Gd ns 1 [] := ⟨hs, by decide, List.nodup_nil, fun x hx => (by cases hx), fun x hx => (by cases hx), fun c _ => (by show (0 : Int) ≤ 1; decide), Nat.zero_le _⟩
theorem row_nil {ns : List Nat} (hs : ns ∈ allSizes) (c : List Int) : rowOf ns.length 1 [] c = [(allC ns.length, 1)] := by
  have g := gd_nil hs
  refine sorted_one (R := fun p q => lexL p.1 q.1 = true) (fun a b h1 h2 => by rw [lexL_asym h1] at h2; cases h2) g.row_asc (List.pairwise_singleton _ _) fun x => ?_
  rw [g.mem_row]
  show x ∈ [(allC ns.length, (1 : Int) - 0)] ∧ x.2 ≠ 0 ↔ _
  constructor
  · rintro ⟨h, _⟩
    simpa using h
  · intro h
    have e : x = (allC ns.length, 1) := by simpa using h
    rw [e]
    exact ⟨by simp, by show (1 : Int) ≠ 0; decide⟩
/-- the rest's fraction -/
theorem lw_rest {B S : Int} (h : 0 < B) : lw ((lw S B).2 - (lw S B).1) (lw S B).2 = lw (B - S) B := by
  refine lw_eq (lw_pos h) h ?_
  have := lw_cross S B
  grind
end FM
/-! Dicts of nested keys in the reading layer. -/
namespace FM
open PySem PySem.Spec PyProof.Rows L2 Evl
/-- a dict of the keys ks, of data ds: to be read | written too -/
def DD (P : Program) (w : World) (K : PySem.W.Frag) (H : Hp) (a : Addr) (ks ds : List NestedKey) : Prop := ∃ kvs, Dr P w K H a kvs ∧ kvs.map (·.1) = ks ∧ TvA K H (kvs.map (·.2)) ds
def DW (P : Program) (w : World) (K : PySem.W.Frag) (H : Hp) (a : Addr) (ks ds : List NestedKey) : Prop := ∃ kvs, Dm P w K H a kvs ∧ kvs.map (·.1) = ks ∧ TvA K H (kvs.map (·.2)) ds
section
variable {P : Program} {w : World} {K : PySem.W.Frag} {H H' : Hp} {a : Addr} {ks ds : List NestedKey}
theorem DW.r (h : DW P w K H a ks ds) : DD P w K H a ks ds := let ⟨kvs, h1, h2, h3⟩ := h; ⟨kvs, h1.r, h2, h3⟩
theorem DD.ex (h : DD P w K H a ks ds) (e : Ex H H') : DD P w K H' a ks ds := let ⟨kvs, h1, h2, h3⟩ := h; ⟨kvs, h1.ex e, h2, h3.ex e⟩
theorem DW.ex (h : DW P w K H a ks ds) (e : Ex H H') : DW P w K H' a ks ds := let ⟨kvs, h1, h2, h3⟩ := h; ⟨kvs, h1.ex e, h2, h3.ex e⟩
theorem DD.exB {D : Addr} (h : DD P w K H a ks ds) (n : a ≠ D) (e : ExB D H H') (k : Kp H H') : DD P w K H' a ks ds := by
  obtain ⟨kvs, ⟨l, h1, h2, h3⟩, h4, h5⟩ := h
  refine ⟨kvs, ⟨l, ?_, h2.kp k, h3⟩, h4, h5.kp k⟩
  rcases h1 with h1 | ⟨o, h1⟩
  · exact .inl (e _ _ n h1)
  · exact .inr ⟨o, e _ _ n h1⟩
theorem DW.exB {D : Addr} (h : DW P w K H a ks ds) (n : a ≠ D) (e : ExB D H H') (k : Kp H H') : DW P w K H' a ks ds := by
  obtain ⟨kvs, ⟨l, h1, h2, h3⟩, h4, h5⟩ := h
  exact ⟨kvs, ⟨l, e _ _ n h1, h2.kp k, h3⟩, h4, h5.kp k⟩
theorem DD.len (h : DD P w K H a ks ds) : ks.length = ds.length := by
  obtain ⟨kvs, _, h2, h3⟩ := h
  rw [← h2, List.length_map, ← h3.length, List.length_map]
theorem DW.some (h : DW P w K H a ks ds) : ∃ φ, H a = some (.ext φ) := let ⟨kvs, h1, _, _⟩ := h; h1.some
theorem valV_nth {α : Type} [DecidableEq α] {v : V} : ∀ {kvs : List (α × V)} {i : Nat} {k : α}, (kvs.map (·.1)).Nodup → kvs[i]? = some (k, v) → valV kvs k = some v
  | [], i, k, _, h => by simp at h
  | p :: kvs, 0, k, _, h => by
    simp at h
    subst h
    exact valV_pos rfl
  | p :: kvs, i + 1, k, hn, h => by
    have hn' := List.nodup_cons.mp hn
    have h' : kvs[i]? = some (k, v) := by simpa using h
    rw [valV_neg (fun e => hn'.1 (List.mem_map.mpr ⟨_, List.mem_of_getElem? h', e.symm⟩))]
    exact valV_nth hn'.2 h'
theorem dd_val {kvs : List (NestedKey × V)} {i : Nat} {k : NestedKey} (hn : ks.Nodup) (h2 : kvs.map (·.1) = ks) (h3 : TvA K H (kvs.map (·.2)) ds) (hk : ks[i]? = some k) : ∃ v d, valV kvs k = some v ∧ ds[i]? = some d ∧ Tv K H v d := by
  have hk' : (kvs.map (·.1))[i]? = some k := by rw [h2]; exact hk
  rw [List.getElem?_map] at hk'
  obtain ⟨⟨k', v⟩, hp, rfl⟩ := Option.map_eq_some_iff.mp hk'
  have hv : (kvs.map (·.2))[i]? = some v := by rw [List.getElem?_map, hp]; rfl
  obtain ⟨d, hd, tv⟩ := h3.get hv
  exact ⟨v, d, valV_nth (by rw [h2]; exact hn) hp, hd, tv⟩
end
theorem pe_ndGetK {X : Cx} {P : Program} {w : World} {K : PySem.W.Frag} {o i : Expr} {td ty : TE} {pos : Pos} (hP : X.prog = P) (hw : X.w = w) (hK : X.K = K) (hu : X.A.units + 9 < cLine) (ho : PE X o td) (hi : PE X i ty) (hs : NoSl i) : PE X (.Subscript o i pos) (tOp (rNdGet P w K) td ty) := by
  subst hP hw hK
  exact pe_ndGet hu ho hi hs
section
variable {P : Program} {w : World} {K : PySem.W.Frag} {σ : L2.St} {H H' : Hp} {ta tb te : TE} {ks ds : List NestedKey}
/-- d[k] of data -/
theorem evd_ndGet {kk : List NestedKey} {d : NestedKey} {i : Nat} (ha : EvP ta σ H (fun v H => ∃ a, v = .ref a ∧ DD P w K H a ks ds)) (hb : EvD K tb σ H (.tup kk)) (hn : ks.Nodup) (hk : ks[i]? = some (.tup kk)) (hd : ds[i]? = some d) (z : (NestedKey.tup kk).depth ≤ 8) : EvD K (tOp (rNdGet P w K) ta tb) σ H d :=
  evp_op ha (fun v H1 H2 e ⟨a, h1, h2⟩ => ⟨a, h1, h2.ex e⟩) hb fun x y H1 _ ⟨a, ex, kvs, h1, h2, h3⟩ py Q q => by
    obtain ⟨v, d', hv, hd', tv⟩ := dd_val hn h2 h3 hk
    rw [hd] at hd'
    cases hd'
    exact ⟨a, kvs, kk, v, ex, h1, py, z, hv, q _ H1 (Ex.refl H1) tv⟩
/-- a new dict, made by a comprehension: each of as that p lets pass, its key kf, its value told by Pv -/
def IsN (P : Program) (w : World) (K : PySem.W.Frag) {α : Type} (H0 : Hp) (as : List α) (kf : α → NestedKey) (Pv : Addr → α → VP) : VP := fun v H => ∃ D l, v = .ref D ∧ H0 D = none ∧ H D = some (NDO P w D l) ∧ Dk K H l ∧ (prs l).map (·.1) = as.map kf ∧ Paired (fun a v => Pv D a v H) as ((prs l).map (·.2))
theorem paired_imp {α β : Type} {R S : α → β → Prop} (h : ∀ a b, R a b → S a b) : ∀ {l : List α} {m : List β}, Paired R l m → Paired S l m
  | _, _, .nil => .nil
  | _, _, .cons h1 t => .cons (h _ _ h1) (paired_imp h t)
theorem evp_ndc {α : Type} [Inhabited α] {wi : TI} {g : TG} {tt : TT} {tk tv : TE} {vs : List Nat} {Y : Nat → VP} (as : List α) (p : α → Bool) (kf : α → NestedKey) (Pv : Addr → α → VP) (hst : ∀ D a v H H', ExB D H H' → Kp H H' → Pv D a v H → Pv D a v H') (hi : EvI wi σ H as.length Y) (hz : as.length ≤ 40000)
    (hkd : ((as.filter p).map kf).Nodup) (hkf : ∀ a, ∃ ks, kf a = .tup ks) (hkz : ∀ a, (kf a).depth ≤ 8)
    (hs : ∀ i a x H1, as[i]? = some a → Ex H H1 → Y i x H1 → GvG g x (wipe σ vs) H1 fun σ2 H2 => wipe σ2 vs = wipe σ vs ∧ EvT tt σ2 H2 (p a) ∧ (p a = true → EvD K tk σ2 H2 (kf a) ∧ ∀ D, (∃ o, H2 D = some o) → EvP tv σ2 H2 (Pv D a))) :
    EvP (tNdc P w K wi g tt tk tv vs) σ H (IsN P w K H (as.filter p) kf Pv) := fun H1 a0 Q q => by
  refine hi H1 a0 _ fun J H2 e2 ⟨G, Yd, wk, hG, hY⟩ D hD => ?_
  refine ndc_it wk (fun i H' => Ex H2 H' ∧ ∃ l, H' D = some (NDO P w D l) ∧ Dk K H' l ∧ (prs l).map (·.1) = ((as.take i).filter p).map kf ∧ Paired (fun a v => Pv D a v H') ((as.take i).filter p) ((prs l).map (·.2)))
    ⟨Ex.new hD, [], upd_same, (fun x hx => by cases hx), rfl, .nil⟩ (fun i H' _ r => hG H' r.1) (fun i x H3 H4 hi' r y => ?_) fun H' r => ?_
  · obtain ⟨r1, l, r2, r3, r4, r5⟩ := r
    obtain ⟨y1, y2⟩ := hY i H3 x H4 hi' r1 y
    have ha : as[i]? = some as[i] := List.getElem?_eq_getElem hi'
    generalize as[i] = ai at ha
    have htk : as.take (i + 1) = as.take i ++ [ai] := by rw [List.take_add_one, ha]; rfl
    refine hs i ai x H4 ha (((a0.trans e2).trans r1).trans y1) y2 _ fun σ2 H5 e5 ⟨hw, ht, he⟩ => ⟨hw, ht H5 (Ex.refl H5) _ fun H6 e6 => ?_⟩
    have x6 : Ex H3 H6 := (y1.trans e5).trans e6
    cases hp : p ai with
    | true =>
      rw [if_pos rfl]
      obtain ⟨h1, h2⟩ := he hp
      refine h1 H6 e6 _ fun yk H7 e7 hk => ?_
      have D5 : ∃ o, H5 D = some o := ⟨_, (y1.trans e5) _ _ r2⟩
      refine h2 D D5 H7 (e6.trans e7) _ fun yv H8 e8 hv => ?_
      obtain ⟨kk, hkk⟩ := hkf ai
      have hk' : Tv K H7 yk (.tup kk) := hkk ▸ hk
      obtain ⟨b, xs, rfl, hsq, hta⟩ := Tv.tupI hk'
      have x8 : Ex H3 H8 := (x6.trans e7).trans e8
      have hfl : ((as.take (i + 1)).filter p) = (as.take i).filter p ++ [ai] := by
        rw [htk, List.filter_append]
        simp [hp]
      have hnew : valV (prs l) (.tup kk) = none := by
        cases hvl : valV (prs l) (.tup kk) with
        | none => rfl
        | some u =>
          exfalso
          have hm : (.tup kk : NestedKey) ∈ ((as.take i).filter p).map kf := by
            rw [← r4]
            have hh : (valV (prs l) (.tup kk)).isSome = true := by rw [hvl]; rfl
            rw [← valV_any, List.any_eq_true] at hh
            obtain ⟨z, hz1, hz2⟩ := hh
            exact List.mem_map.mpr ⟨z, hz1, of_decide_eq_true hz2⟩
          have hsplit : as.filter p = ((as.take (i + 1)).filter p) ++ (as.drop (i + 1)).filter p := by
            rw [← List.filter_append, List.take_append_drop]
          rw [hsplit, hfl, List.map_append, List.map_append] at hkd
          have h1 := (List.nodup_append.mp hkd).1
          have h2 := (List.nodup_append.mp h1).2.2 _ hm (kf ai) (by simp)
          exact h2 hkk.symm
      have hlen : l.length < sizeLine := by
        have l1 : (prs l).length = l.length := by unfold prs; rw [List.length_map]
        have l2 := congrArg List.length r4
        rw [List.length_map, List.length_map] at l2
        have l3 : ((as.take i).filter p).length ≤ as.length := Nat.le_trans (List.length_filter_le _ _) (by rw [List.length_take]; omega)
        exact sz_lt (by omega)
      have hprs : prs (putE l (.tup kk) b yv) = prs l ++ [(.tup kk, yv)] := by rw [prs_put, putK_new _ hnew]
      have rD8 : H8 D = some (NDO P w D l) := x8 _ _ r2
      have k9 : Kp H8 (upd H8 D (NDO P w D (putE l (.tup kk) b yv))) := Kp.upd (nrd_ext rD8)
      refine ⟨l, kk, b, rfl, rD8, r3.kp (.ex x8), Tv.ex hk' e8, by rw [← hkk]; exact hkz ai, hlen, ?_⟩
      refine ⟨Ex.mut (r1.trans x8) hD, _, upd_same, ?_, ?_, ?_⟩
      · exact ((r3.kp (.ex x8)).put yv (Tv.ex hk' e8) (by rw [← hkk]; exact hkz ai)).kp k9
      · rw [hprs, List.map_append, r4, hfl, List.map_append, ← hkk]
        rfl
      · rw [hprs, List.map_append, hfl]
        refine Paired.snoc (paired_imp (fun a v h => hst D a v _ _ ((ExB.of x8).trans ExB.upd) ((Kp.ex x8).trans k9) h) r5) ?_
        exact hst D ai yv _ _ ExB.upd k9 hv
    | false =>
      rw [if_neg Bool.false_ne_true]
      have hfl : ((as.take (i + 1)).filter p) = (as.take i).filter p := by
        rw [htk, List.filter_append]
        simp [hp]
      refine ⟨r1.trans x6, l, x6 _ _ r2, r3.kp (.ex x6), by rw [hfl]; exact r4, ?_⟩
      rw [hfl]
      exact paired_imp (fun a v h => hst D a v _ _ (.of x6) (.ex x6) h) r5
  · obtain ⟨r1, l, r2, r3, r4, r5⟩ := r
    rw [List.take_length] at r4 r5
    exact q _ H' (e2.trans r1) ⟨D, l, rfl, fresh_back a0 (fresh_back e2 hD), r2, r3, r4, r5⟩
theorem tva_paired {α : Type} {df : α → NestedKey} : ∀ {as : List α} {vs : List V}, Paired (fun a v => Tv K H v (df a)) as vs → TvA K H vs (as.map df)
  | _, _, .nil => .nil
  | _, _, .cons h t => .cons h (tva_paired t)
theorem IsN.dw {α : Type} {H0 : Hp} {as : List α} {kf df : α → NestedKey} {v : V} (h : IsN P w K H0 as kf (fun _ a => IsD K (df a)) v H) : ∃ D, v = .ref D ∧ H0 D = none ∧ DW P w K H D (as.map kf) (as.map df) := by
  obtain ⟨D, l, h1, h2, h3, h4, h5, h6⟩ := h
  exact ⟨D, h1, h2, prs l, ⟨l, h3, h4, rfl⟩, h5, tva_paired h6⟩
end
end FM
/-! Rows from dicts; dicts of shares looked at. -/
namespace FM
open PySem PySem.Spec PyProof.Rows L2 Evl
section
variable {P : Program} {w : World} {K : PySem.W.Frag} {σ : L2.St} {H : Hp} {te td : TE}
def rIsiNd (P : Program) (w : World) : List V → Hp → VK → Prop := fun xs H Q => ∃ a l, xs = [.ref a, .ty "dict"] ∧ Rd H a (NDO P w a l) ∧ Q (.bl true) H
def rSrtN (P : Program) (w : World) (K : PySem.W.Frag) : List V → Hp → VK → Prop := fun vs H Q => ∃ a kvs, vs = [V.ref a] ∧ Dr P w K H a kvs ∧ Srt (kvs.map (·.1)) ∧ Out H K (kvs.map (·.1)) Q
theorem lexL_trans : ∀ {p q r : List Int}, lexL p q = true → lexL q r = true → lexL p r = true
  | [], [], _, h, _ => by cases h
  | [], _ :: _, [], _, h => by cases h
  | [], _ :: _, _ :: _, _, _ => rfl
  | _ :: _, [], _, h, _ => by cases h
  | _ :: _, _ :: _, [], _, h => by cases h
  | x :: p, y :: q, z :: r, h1, h2 => by
    unfold lexL at h1 h2 ⊢
    rw [HT.lexLt_cons] at h1 h2 ⊢
    by_cases e1 : x = y
    · subst e1
      rw [if_pos rfl] at h1
      by_cases e2 : x = z
      · subst e2
        rw [if_pos rfl] at h2 ⊢
        exact lexL_trans h1 h2
      · rw [if_neg e2] at h2 ⊢
        exact h2
    · rw [if_neg e1] at h1
      have l1 := of_decide_eq_true h1
      by_cases e2 : y = z
      · subst e2
        rw [if_neg e1]
        exact h1
      · rw [if_neg e2] at h2
        have l2 := of_decide_eq_true h2
        rw [if_neg (by omega)]
        exact decide_eq_true (by omega)
theorem insL_perm (p : List Int) : ∀ l, (insL p l).Perm (p :: l)
  | [] => .refl _
  | q :: l => by
    unfold insL
    split
    · exact .refl _
    · exact (List.Perm.cons q (insL_perm p l)).trans (.swap p q l)
theorem insL_sorted {p : List Int} : ∀ {l : List (List Int)}, l.Pairwise (fun p q => lexL p q = true) → p ∉ l → (insL p l).Pairwise fun p q => lexL p q = true
  | [], _, _ => List.pairwise_singleton _ _
  | q :: l, h, hn => by
    have h' := List.pairwise_cons.mp h
    unfold insL
    by_cases e : lexL p q = true
    · rw [if_pos e]
      refine List.pairwise_cons.mpr ⟨fun x hx => ?_, h⟩
      rcases List.mem_cons.mp hx with ex | hx
      · subst ex
        exact e
      · exact lexL_trans e (h'.1 x hx)
    · rw [if_neg e]
      refine List.pairwise_cons.mpr ⟨fun x hx => ?_, insL_sorted h'.2 fun hx => hn (List.mem_cons_of_mem _ hx)⟩
      rcases List.mem_cons.mp ((insL_perm p l).mem_iff.mp hx) with ex | hx
      · subst ex
        exact lexL_conn (fun z => hn (z ▸ List.mem_cons_self)) (by simpa using e)
      · exact h'.1 x hx
def sortL (ps : List (List Int)) : List (List Int) := ps.foldr insL []
theorem sortL_perm : ∀ ps, (sortL ps).Perm ps
  | [] => .nil
  | p :: ps => (insL_perm p (sortL ps)).trans (.cons p (sortL_perm ps))
theorem sortL_sorted : ∀ {ps : List (List Int)}, ps.Nodup → (sortL ps).Pairwise fun p q => lexL p q = true
  | [], _ => .nil
  | p :: ps, h => by
    have h' := List.nodup_cons.mp h
    exact insL_sorted (sortL_sorted h'.2) fun hx => h'.1 ((sortL_perm ps).mem_iff.mp hx)
theorem find_fst {m : Row} {p : List Int} {y : List Int × Int} (hf : (m.find? fun x => decide (x.1 = p)) = some y) : y ∈ m ∧ y.1 = p := ⟨List.mem_of_find?_eq_some hf, by
  have h := List.find?_some hf
  simpa using h⟩
theorem sort_one {l m : List (List Int)} (h1 : l.Pairwise fun p q => lexL p q = true) (h2 : m.Pairwise fun p q => lexL p q = true) (h : ∀ x, x ∈ l ↔ x ∈ m) : l = m :=
  sorted_one (R := fun p q => lexL p q = true) (fun a b h1 h2 => by rw [lexL_asym h1] at h2; cases h2) h1 h2 h
theorem evp_sortN {ps : List (List Int)} {ds : List NestedKey} (h : EvP te σ H (fun v H => ∃ a, v = .ref a ∧ DD P w K H a (ps.map eL) ds)) (hn : ps.Nodup) : EvP (tCB (rSrtN P w K) (tCons te tNil)) σ H (IsLD K ((sortL ps).map eL)) := fun H1 a Q q =>
  h H1 a _ fun v H2 e2 ⟨l, ev, kvs, h1, h2, h3⟩ => ⟨l, kvs, by rw [ev], h1, by rw [h2]; exact srt_eL ps, fun p ys es hp ty g1 g2 => by
    rw [h2] at g1
    obtain ⟨qs, rfl, g1, g2⟩ := out_eL g1 g2 hn
    have e : qs = sortL ps := sort_one g2 (sortL_sorted hn) fun x => by rw [g1.mem_iff, (sortL_perm ps).mem_iff]
    subst e
    exact q _ _ (e2.trans (Ex.new hp)) ⟨p, ys, rfl, upd_same, ty.ex (Ex.new hp)⟩⟩
/-- a locked dict, unlocked -/
theorem ex_unlock {H H1 H' : Hp} {d : Addr} {u : HO} {od : Obj} (hd : H d = some u) (e : Ex H H1) (e' : Ex (upd H1 d (.frz od u)) H') : Ex H (upd H' d u) := fun a o ha => by
  by_cases h : a = d
  · subst h
    rw [hd] at ha
    cases ha
    exact upd_same
  · rw [upd_ne h]
    refine e' a o ?_
    rw [upd_ne h]
    exact e a o ha
theorem kp_lock {H : Hp} {d : Addr} {φ : Heap → Prop} {o : HO} (hd : H d = some (.ext φ)) : Kp H (upd H d o) := Kp.upd (nrd_ext hd)
theorem evi_nd {d : Addr} {o : Obj} {l : List Ent} (h : Ev td σ H (.ref d)) (hd : H d = some (.frz o (NDO P w d l))) (hk : Dk K H l) : EvI (iNd P w td) σ H (prs l).length (fun i v H => ∃ k, ((prs l).map (·.1))[i]? = some k ∧ Tv K H v k) := fun H1 a R q =>
  h H1 a _ fun H2 e2 => by
    have hd2 := (a.trans e2) _ _ hd
    have hl : (prs l).length = l.length := by unfold prs; rw [List.length_map]
    refine ⟨d, o, l, rfl, hd2, q _ H2 e2 ⟨_, _, hl ▸ walk_nd (P := P) (w := w), fun H' e => e _ _ hd2, fun i H3 x H4 _ e3 y => ?_⟩⟩
    obtain ⟨rfl, e, he, rfl⟩ := y
    refine ⟨Ex.refl _, e.1, ?_, ?_⟩
    · rw [List.getElem?_map]
      unfold prs
      rw [List.getElem?_map, he]
      rfl
    · exact (hk e (List.mem_of_getElem? he)).1.ex ((a.trans e2).trans e3)
end
section
variable {P : Program} {w : World} {K : PySem.W.Frag} {mg : Str → Option Value} {base : Heap} {aN aO : Addr} {tC tM : Tok}
theorem sc_row_from : FnScope ["shares", "pattern"] ["shares"] (defScope (top 39)) := ⟨rfl, rfl, rfl, by decide +kernel, rfl, by decide +kernel, by decide +kernel⟩
def fRowFrom (P : Program) (w : World) (K : PySem.W.Frag) : List V → Hp → VP → Prop := fun vs H R => ∃ (a : Addr) (m r : Row) (B : Int), vs = [.ref a] ∧ DD P w K H a (m.map fun x => eL x.1) (m.map fun x => eF (lw x.2 B)) ∧ (m.map (·.1)).Nodup ∧ 0 < B ∧ m.length ≤ 1000 ∧
  r.Pairwise (fun p q => lexL p.1 q.1 = true) ∧ (∀ x, x ∈ r ↔ x ∈ m ∧ x.2 ≠ 0) ∧ R = IsD K (eR (rowE B r))
theorem fn_row_from (D : Df K mg "row_from" "row_from" (top 39) ["shares"]) (T : Txt K mg aN aO tC tM) : Fn P w K mg base "row_from" 1 ["shares"] (spG (fRowFrom P w K)) := by
  refine D.fn fun f fd F => ?_
  refine F.ok sc_row_from (fun vs H Q E h => by obtain ⟨R, ⟨a, m, r, B, rfl, _⟩, _⟩ := h; rfl) (fun cdv A outer s H vs Q E hr h => ?_)
  obtain ⟨R, ⟨a, m, r, B, rfl, hD, hn, h1, hl, hrs, hrm, rfl⟩, k⟩ := h
  have hu64 := hr.units
  have hu20 : (A.deeper (envOfC "row_from" (defScope (top 39)) s.heap.objs.size f cdv)).units + 20 < cLine := by omega
  have hu9 : (A.deeper (envOfC "row_from" (defScope (top 39)) s.heap.objs.size f cdv)).units + 9 < cLine := by omega
  refine ⟨_, (pss_one (ps_ret (pe_callTy (r := rTupOf K) call_tuple_of (by rfl) T.tuple boot_tuple (pa_cons (pe_lc (own := [(("pattern" : Str), 1)]) (g := gName 1) rfl sc_row_from.nd (pi_list (pe_callB (r := rSrtN P w K) (cr_sortedNd rfl hu20) (by rfl) T.sorted boot_sorted (pa_cons (pv 0) pa_nil))) (blkOk_by (own := [(("pattern" : Str), 1)]) (N := ["shares", "pattern"]) (sc := defScope (top 39)) (by decide +kernel)) (fun _ _ _ _ _ => (pg_name (i := 1) sc_row_from.nd rfl (.inl rfl))) (fun _ _ _ _ _ => (pts_one (pt_cmpR (r := rEqT K true) (op_neT hu64) (pe_ndGetK (P := P) (w := w) (K := K) rfl rfl rfl hu9 (pv 0) (pv 1) (fun _ _ => rfl)) (pe_glob (v := V.ref aN) (by rfl) T.gNOTHING rfl) (nomark _)))) (fun _ _ _ _ _ => (pe_tup (pa_cons (pv 1) (pa_cons (pe_ndGetK (P := P) (w := w) (K := K) rfl rfl rfl hu9 (pv 0) (pv 1) (fun _ _ => rfl)) pa_nil))))) pa_nil)))), ?_⟩
  have v0 : EvP (tVar 0) (start ["shares", "pattern"] [V.ref a]) H (fun v H => ∃ a, v = .ref a ∧ DD P w K H a ((m.map (·.1)).map eL) (m.map fun x => eF (lw x.2 B))) := evp_var rfl fun H1 e1 => ⟨a, rfl, by rw [List.map_map]; exact hD.ex e1⟩
  have hS := evp_sortN v0 hn
  have hpm := sortL_perm (m.map (·.1))
  have hps := sortL_sorted hn
  have hlen : (sortL (m.map (·.1))).length = m.length := by rw [hpm.length_eq, List.length_map]
  generalize sortL (m.map (·.1)) = qs at hS hpm hps hlen
  have hkn : (m.map fun x => eL x.1).Nodup := by
    rw [List.Nodup, List.pairwise_map]
    exact (List.pairwise_map.mp hn).imp fun {a b} h e => h (eL_inj e)
  -- each sorted pattern with its numerator
  have hnum : ∀ p ∈ qs, ∃ (i : Nat) (z : Int), m[i]? = some (p, z) := fun p hp => by
    obtain ⟨x, hx, rfl⟩ := List.mem_map.mp (hpm.mem_iff.mp hp)
    obtain ⟨i, hi, e⟩ := List.getElem_of_mem hx
    exact ⟨i, x.2, by rw [List.getElem?_eq_getElem hi, e]⟩
  have hL := evp_lcD (K := K) (σ := start ["shares", "pattern"] [V.ref a]) (H := H) (te := tTup (tCons (tVar 1) (tCons (tOp (rNdGet P w K) (tVar 0) (tVar 1)) tNil))) (g := gName 1) (tt := tTest (tOp (rEqT K true) (tOp (rNdGet P w K) (tVar 0) (tVar 1)) (L2.tC (V.ref aN)))) (vs := [1]) (wi := iList K (tCB (rSrtN P w K) (tCons (tVar 0) tNil)))
    (Y := fun i v H => ∃ d, (qs.map eL)[i]? = some d ∧ Tv K H v d) qs (fun p => decide (shareN m p ≠ 0)) (fun p => eP (p, lw (shareN m p) B)) (by have := evi_listD hS; rw [List.length_map] at this; exact this) (by omega) (fun i p x H1 hp e1 ⟨d, hd', tv⟩ => by
      rw [List.getElem?_map, hp] at hd'
      cases hd'
      obtain ⟨j, z, hj⟩ := hnum p (List.mem_of_getElem? hp)
      have hz : shareN m p = z := by
        unfold shareN
        cases hf : m.find? fun x => decide (x.1 = p) with
        | none =>
          have := List.find?_eq_none.mp hf _ (List.mem_of_getElem? hj)
          simp at this
        | some y =>
          have h4 := find_fst hf
          rw [key_one hn h4.1 (List.mem_of_getElem? hj) h4.2]
      have hk : (m.map fun x => eL x.1)[j]? = some (eL p) := by rw [List.getElem?_map, hj]; rfl
      have hd : (m.map fun x => eF (lw x.2 B))[j]? = some (eF (lw (shareN m p) B)) := by rw [List.getElem?_map, hj, hz]; rfl
      have hg : EvD K (tOp (rNdGet P w K) (tVar 0) (tVar 1)) ((wipe (start ["shares", "pattern"] [V.ref a]) [1]).set 1 (some x)) H1 (eF (lw (shareN m p) B)) := evd_ndGet (evp_var rfl fun H2 e2 => ⟨a, rfl, hD.ex (e1.trans e2)⟩) (evd_var rfl tv) hkn hk hd (by rw [depth_eL]; decide)
      refine gvg_name ⟨rfl, ?_, fun _ => evd_tup (ead_cons (evd_var rfl tv) (ead_cons hg ead_nil)) (by show 2 ≤ 100000; decide)⟩
      refine et_is (et_test (ev_eqT (neg := true) hg (e := eF (0, 1)) (.of ev_c fun H3 _ => T.tN H3) (by rw [depth_eF]; decide) (by rw [depth_eF]; decide))) ?_
      have : eF (lw (shareN m p) B) = eF (0, 1) ↔ shareN m p = 0 := ⟨fun z => (lw_ne_zero h1).mp (eF_inj z), fun z => by rw [z, lw_zero h1]⟩
      simp [this])
  refine sp_ret (P := IsD K (eR (rowE B r))) ?_ fun v H1 e p => k v H1 e p
  have e : r = (qs.filter fun p => decide (shareN m p ≠ 0)).map fun p => (p, shareN m p) := by
    refine sorted_one (R := fun p q => lexL p.1 q.1 = true) (fun a b h1 h2 => by rw [lexL_asym h1] at h2; cases h2) hrs ?_ fun x => ?_
    · rw [List.pairwise_map]
      exact hps.filter _
    · rw [hrm, List.mem_map]
      constructor
      · rintro ⟨hx, h0⟩
        have hs : shareN m x.1 = x.2 := (shareN_ne hn h0).mpr (.inl hx)
        exact ⟨x.1, List.mem_filter.mpr ⟨hpm.mem_iff.mpr (List.mem_map.mpr ⟨x, hx, rfl⟩), by rw [hs]; exact decide_eq_true h0⟩, by rw [hs]⟩
      · rintro ⟨p, hp, rfl⟩
        obtain ⟨hp1, hp2⟩ := List.mem_filter.mp hp
        have h0 := of_decide_eq_true hp2
        rcases (shareN_ne hn h0).mp rfl with h | h
        · exact ⟨h, h0⟩
        · cases h
  have e2 : (rowE B r).map eP = (qs.filter fun p => decide (shareN m p ≠ 0)).map fun p => eP (p, lw (shareN m p) B) := by
    unfold rowE
    rw [e, List.map_map, List.map_map]
    rfl
  show EvD K _ _ _ (NestedKey.tup ((rowE B r).map eP))
  rw [e2]
  exact evd_tupOf hL
end
end FM
/-! are_shares, shown_by_shares. -/
namespace FM
open PySem PySem.Spec PyProof.Rows L2 Evl
section
variable {P : Program} {w : World} {K : PySem.W.Frag} {σ : L2.St} {H : Hp} {te td : TE}
/-- all([.. for .. in d]), d locked meanwhile -/
theorem ev_allTrueL {wi : TI} {g : TG} {vs : List Nat} {n : Nat} {Y : Nat → VP} {d : Addr} {u : HO} (hd : H d = some u) (mu : Mut (some u)) (hz : n ≤ 40000)
    (hi : ∀ H1 od, Ex H H1 → EvI wi σ (upd H1 d (.frz od u)) n Y)
    (hs : ∀ H1 od i x H2, Ex H H1 → i < n → Ex (upd H1 d (.frz od u)) H2 → Y i x H2 → GvG g x (wipe σ vs) H2 fun σ2 H3 => wipe σ2 vs = wipe σ vs ∧ Ev te σ2 H3 (.bl true)) : Ev (tCB (rAll K) (tCons (tLockE (tLc wi g tYes te vs)) tNil)) σ H (.bl true) := by
  intro H1 a Q q
  show tLockE (tLc wi g tYes te vs) σ H1 (fun v H2 => rAll K [v] H2 Q)
  refine ⟨d, u, a _ _ hd, mu, fun od => ?_⟩
  have L : EvP (tLc wi g tYes te vs) σ (upd H1 d (.frz od u)) (IsL (fun _ => true) (fun _ => IsV (.bl true)) n) :=
    evp_lc (fun _ => true) (fun _ => IsV (.bl true)) (fun _ => stk_V) (hi H1 od a) hz fun i x H2 hi' e y Q q => hs H1 od i x H2 a hi' e y Q fun σ2 H3 e2 hh => q σ2 H3 e2 ⟨hh.1, et_yes, fun _ => evp_v hh.2⟩
  refine L _ (Ex.refl _) _ fun v H2 e2 ⟨l, ys, ev, hl, hp⟩ => ⟨e2 _ _ upd_same, ?_⟩
  obtain ⟨bs, rfl, hb⟩ := lp_true hp
  have hne : l ≠ d := fun z => by
    subst z
    have := e2 _ _ (upd_same (H := H1) (o := .frz od u))
    rw [hl] at this
    cases this
  refine ⟨l, bs, by rw [ev], sq_of (by rw [upd_ne hne]; exact hl), ?_⟩
  rw [hb]
  exact q _ (ex_unlock (a _ _ hd) (Ex.refl H1) e2)
/-- name = .. while d is locked -/
theorem qp_lockA {i : Nat} {t : TE} {R : VP} {R' : Obj → VP} {D : Ends} {tz : TS} {d : Addr} {u : HO} (hd : H d = some u) (mu : Mut (some u)) (h : ∀ od, EvP t σ (upd H d (.frz od u)) (R' od)) (hR : ∀ od v H', Ex (upd H d (.frz od u)) H' → R' od v H' → R v (upd H' d u)) (k : ∀ v H1, Ex H H1 → R v H1 → tz D (σ.set i (some v)) H1) : tSeq (tLock (tAsg t (gName i))) tz D σ H :=
  ⟨d, u, hd, mu, fun od => h od _ (Ex.refl _) _ fun v H' e p => ⟨e _ _ upd_same, k v _ (ex_unlock hd (Ex.refl H) e) (hR od v H' e p)⟩⟩
theorem mut_ext {φ : Heap → Prop} : Mut (some (.ext φ)) := True.intro
/-- a good dict's object, its entries -/
theorem dw_obj {a : Addr} {ks ds : List NestedKey} (h : DW P w K H a ks ds) : ∃ l, H a = some (NDO P w a l) ∧ Dk K H l ∧ (prs l).map (·.1) = ks ∧ TvA K H ((prs l).map (·.2)) ds := by
  obtain ⟨kvs, ⟨l, h1, h2, rfl⟩, h3, h4⟩ := h
  exact ⟨l, h1, h2, h3, h4⟩
theorem dd_lock {a : Addr} {l : List Ent} {ks ds : List NestedKey} {od : Obj} (h1 : H a = some (NDO P w a l)) (h2 : Dk K H l) (h3 : (prs l).map (·.1) = ks) (h4 : TvA K H ((prs l).map (·.2)) ds) : DD P w K (upd H a (.frz od (NDO P w a l))) a ks ds :=
  ⟨prs l, ⟨l, .inr ⟨od, upd_same⟩, h2.kp (kp_lock h1), rfl⟩, h3, h4.kp (kp_lock h1)⟩
end
/-- a dict of boxes -/
abbrev bK (kvs : Bks) : List NestedKey := kvs.map fun x => eB x.1
abbrev bD (B : Int) (kvs : Bks) : List NestedKey := kvs.map fun x => eF (lw x.2 B)
theorem bK_get {kvs : Bks} {i : Nat} {k : NestedKey} (h : (bK kvs)[i]? = some k) : ∃ x, kvs[i]? = some x ∧ k = eB x.1 := by
  unfold bK at h
  rw [List.getElem?_map] at h
  obtain ⟨x, hx, e⟩ := Option.map_eq_some_iff.mp h
  exact ⟨x, hx, e.symm⟩
theorem bK_at {kvs : Bks} {i : Nat} {x : Bx × Int} (h : kvs[i]? = some x) : (bK kvs)[i]? = some (eB x.1) := by
  unfold bK
  rw [List.getElem?_map, h]
  rfl
theorem bD_at {B : Int} {kvs : Bks} {i : Nat} {x : Bx × Int} (h : kvs[i]? = some x) : (bD B kvs)[i]? = some (eF (lw x.2 B)) := by
  unfold bD
  rw [List.getElem?_map, h]
  rfl
theorem bK_nd {kvs : Bks} (h : (kvs.map (·.1)).Nodup) : (bK kvs).Nodup := by
  unfold bK
  rw [List.Nodup, List.pairwise_map]
  exact (List.pairwise_map.mp h).imp fun {a b} h e => h (eB_inj e)
section
variable {P : Program} {w : World} {K : PySem.W.Frag} {mg : Str → Option Value} {base : Heap} {aN aO : Addr} {tC tM : Tok}
theorem sc_are_shares : FnScope ["sizes", "thing", "whole", "box"] ["sizes", "thing"] (defScope (top 50)) := ⟨rfl, rfl, rfl, by decide +kernel, rfl, by decide +kernel, by decide +kernel⟩
def fShares (P : Program) (w : World) (K : PySem.W.Frag) : List V → Hp → VP → Prop := fun vs H R => ∃ (s : V) (a : Addr) (ns : List Nat) (B : Int) (kvs : Bks), vs = [s, .ref a] ∧ Tv K H s (eL (zL ns)) ∧ DW P w K H a (bK kvs) (bD B kvs) ∧ Gd ns B kvs ∧ R = IsV (.bl true)
theorem fn_are_shares (D : Df K mg "are_shares" "are_shares" (top 50) ["sizes", "thing"]) (T : Txt K mg aN aO tC tM) (G_is_raw_box : Fn P w K mg base "is_raw_box" 4 ["sizes", "thing"] (spD K fRawBox)) (G_all_columns : Fn P w K mg base "all_columns" 1 ["columns"] (spD K (fAllC K)))
    (G_is_share : Fn P w K mg base "is_share" 3 ["thing"] (spD K fShare)) : Fn P w K mg base "are_shares" 5 ["sizes", "thing"] (spG (fShares P w K)) := by
  refine D.fn fun f fd F => ?_
  refine F.ok sc_are_shares (fun vs H Q E h => by obtain ⟨R, ⟨s, a, ns, B, kvs, rfl, _⟩, _⟩ := h; rfl) (fun cdv A outer s H vs Q E hr h => ?_)
  obtain ⟨R, ⟨v, a, ns, B, kvs, rfl, d1, hD, g, rfl⟩, k⟩ := h
  have hu64 := hr.units
  have hu9 : (A.deeper (envOfC "are_shares" (defScope (top 50)) s.heap.objs.size f cdv)).units + 9 < cLine := by omega
  refine ⟨_, (pss_cons (ps_if (pw_or (pt_not (pt_val (pe_callB (r := rIsiNd P w) call_isiNd (by rfl) T.isinstance boot_isinstance (pa_cons (pv 1) (pa_cons (pe_bltn (v := V.ty "dict") (by rfl) T.dict boot_dict rfl) pa_nil))))) (pw_or1 (pt_not (pt_val (pe_callB (r := rAll K) (cr_all rfl) (by rfl) T.all boot_all (pa_cons (pe_lock (pe_lc (own := [(("box" : Str), 3)]) (g := gName 3) (tt := tYes) rfl sc_are_shares.nd (pi_nd (pv 1)) (blkOk_by (own := [(("box" : Str), 3)]) (N := ["sizes", "thing", "whole", "box"]) (sc := defScope (top 50)) (by decide +kernel)) (fun _ _ _ _ _ => (pg_name (i := 3) sc_are_shares.nd rfl (.inl rfl))) (fun _ _ _ _ _ => pts_nil) (fun _ _ _ _ _ => (pe_callF G_is_raw_box (hr.mono (by decide)) (pa_cons (pv 0) (pa_cons (pv 3) pa_nil)))))) pa_nil)))))).pt (pss_one (ps_ret pe_bl)) pss_nil)
      (pss_cons (ps_set (i := 2) sc_are_shares.nd rfl (.inr rfl) (pe_callF G_all_columns (hr.mono (by decide)) (pa_cons (pe_callB (r := rLenS K) call_len_seq (by rfl) T.len boot_len (pa_cons (pv 0) pa_nil)) pa_nil)))
      (pss_one (ps_ret (pe_callB (r := rAll K) (cr_all rfl) (by rfl) T.all boot_all (pa_cons (pe_lock (pe_lc (own := [(("box" : Str), 3)]) (g := gName 3) (tt := tYes) rfl sc_are_shares.nd (pi_nd (pv 1)) (blkOk_by (own := [(("box" : Str), 3)]) (N := ["sizes", "thing", "whole", "box"]) (sc := defScope (top 50)) (by decide +kernel)) (fun _ _ _ _ _ => (pg_name (i := 3) sc_are_shares.nd rfl (.inl rfl))) (fun _ _ _ _ _ => pts_nil) (fun _ _ _ _ _ => (pe_and (pe_cmpR (r := rEqT K true) (op_neT hu64) (pe_ix (r := rIxT K) ix_tup (pv 3) pe_int (fun _ _ => rfl)) (pv 2) (nomark _)) (pe_one (pe_callF G_is_share (hr.mono (by decide)) (pa_cons (pe_ndGetK (P := P) (w := w) (K := K) rfl rfl rfl hu9 (pv 1) (pv 3) (fun _ _ => rfl)) pa_nil))))))) pa_nil)))))), ?_⟩
  obtain ⟨l, l1, l2, l3, l4⟩ := dw_obj hD
  have hcol := g.col
  have hlk : (prs l).length = kvs.length := by
    have := congrArg List.length l3
    rw [List.length_map, List.length_map] at this
    exact this
  have hgl := g.len
  have hzl : ((zL ns).map NestedKey.num).length = ns.length := map_len (zL_len ns)
  -- each is a box
  refine q_when (b := false) (et_false_or (et_nt ?_) (et_nt ?_)) (fun h => by cases h) fun _ H1 e1 => ?_
  · exact (evp_cb (P := IsV (.bl true)) (eap_cons (evp_v (ev_var (v := V.ref a) rfl)) sty_V (eap_cons (evp_v ev_c) sty_V eap_nil)) fun vs H1 e1 hv Q q => by
      obtain ⟨x, ws, rfl, hx, y, ws', rfl, hy, rfl⟩ := hv
      cases hx
      cases hy
      exact ⟨a, l, rfl, .inl (e1 _ _ l1), q _ H1 (Ex.refl H1) rfl⟩).ev
  · refine ev_allTrueL (d := a) (u := NDO P w a l) (n := kvs.length) (Y := fun i v H => ∃ k, ((prs l).map (·.1))[i]? = some k ∧ Tv K H v k) l1 mut_ext (by omega) (fun H1 od e1 => hlk ▸ evi_nd (ev_var rfl) upd_same ((l2.kp (.ex e1)).kp (kp_lock (e1 _ _ l1)))) fun H1 od i x H2 e1 hi e2 ⟨kk, hk, tv⟩ => ?_
    rw [l3] at hk
    obtain ⟨y, hy, rfl⟩ := bK_get hk
    obtain ⟨g1, g2, c, hc, g3⟩ := g.key y (List.mem_of_getElem? hy)
    have gp := pats_ok hcol.1 g1
    have hcc := con_ok g.sz hc
    have d1' : Tv K H2 v (eL (zL ns)) := Tv.ex ((d1.ex e1).kp (kp_lock (e1 _ _ l1))) e2
    refine gvg_name ⟨rfl, (evp_callD (ead_cons (evd_var rfl d1') (ead_cons (evd_var rfl tv) ead_nil)) ⟨ns, y.1.1, y.1.2, rfl, gp.1, by omega, ?_, by omega, ?_, rfl⟩).ev⟩
    · rw [g3]
      unfold proj
      rw [List.length_map]
    · intro j cc z h1 h2
      rw [g3] at h2
      unfold proj at h2
      rw [List.getElem?_map, h1] at h2
      cases h2
      have hp := gp.1.2 cc (List.mem_of_getElem? h1)
      have := hcc.2 cc.toNat (by omega)
      exact ⟨this.1, by show c.getD cc.toNat 0 ≤ _; omega⟩
  -- whole
  refine qp_asg (P := IsD K (eL (allC ns.length))) (evp_callD (ead_cons (evd_i (Ev.castI (ev_lenD (evd_var rfl (d1.ex e1))) (j := (ns.length : Int)) (by rw [hzl]))) ead_nil) ⟨ns.length, rfl, by omega, rfl⟩) fun vw H2 e2 hw => ?_
  have e12 := e1.trans e2
  refine sp_ret (P := IsV (.bl true)) (evp_v ?_) fun v H2 e2 p => k v H2 (e12.trans e2) p
  refine ev_allTrueL (d := a) (u := NDO P w a l) (n := kvs.length) (Y := fun i v H => ∃ k, ((prs l).map (·.1))[i]? = some k ∧ Tv K H v k) (e12 _ _ l1) mut_ext (by omega) (fun H1 od e1 => hlk ▸ evi_nd (ev_var rfl) upd_same (((l2.kp (.ex e12)).kp (.ex e1)).kp (kp_lock (e1 _ _ (e12 _ _ l1))))) fun H3 od i x H4 e3 hi e4 ⟨kk, hk, tv⟩ => ?_
  rw [l3] at hk
  obtain ⟨y, hy, rfl⟩ := bK_get hk
  obtain ⟨g1, g2, c, hc, g3⟩ := g.key y (List.mem_of_getElem? hy)
  have hn0 := g.num y (List.mem_of_getElem? hy)
  have hnb : y.2 ≤ B := by
    have h1 := g.sum c hc
    have : y.2 ≤ spent kvs c := by
      unfold spent
      refine le_sum (fun z hz => ?_) _ (List.mem_map.mpr ⟨y, List.mem_filter.mpr ⟨List.mem_of_getElem? hy, decide_eq_true g3.symm⟩, rfl⟩)
      obtain ⟨q, hq, rfl⟩ := List.mem_map.mp hz
      exact g.num q (List.mem_filter.mp hq).1
    omega
  have e13 := e12.trans e3
  have hDD : DD P w K H4 a (bK kvs) (bD B kvs) := (dd_lock (od := od) (e13 _ _ l1) (l2.kp (.ex e13)) l3 (l4.ex e13)).ex e4
  have hw4 : Tv K H4 vw (eL (allC ns.length)) := Tv.ex ((Tv.ex hw e3).kp (kp_lock (e13 _ _ l1))) e4
  refine gvg_name ⟨rfl, ev_andV (a := true) (b := true) (Ev.cast (ev_eqT (neg := true) (ev_ix0 (evd_var rfl tv) ev_c) (evd_var rfl hw4) (by rw [depth_eL]; decide) (by rw [depth_eL]; decide)) ?_) fun _ => ?_⟩
  · have : eL y.1.1 ≠ eL (allC ns.length) := fun z => by
      have := eL_inj z
      rw [this, allC_len] at g2
      omega
    simp [this]
  · have hg : EvD K _ _ H4 (eF (lw y.2 B)) := evd_ndGet (P := P) (w := w) (K := K) (σ := [some v, some (V.ref a), some vw, some x]) (ta := tVar 1) (tb := tVar 3) (evp_var rfl fun H5 e5 => ⟨a, rfl, hDD.ex e5⟩) (evd_var rfl tv) (bK_nd g.nd) (bK_at hy) (bD_at hy) (by rw [depth_eB]; decide)
    exact (evp_callD (ead_cons hg ead_nil) ⟨_, _, rfl, lw_pos g.bot.1, lw_cop g.bot.1, lw_nonneg g.bot.1 hn0, lw_le_bot g.bot.1 hnb, rfl⟩).ev
end
end FM
/-! shown_by_shares. -/
namespace FM
open PySem PySem.Spec PyProof.Rows L2 Evl
section
variable {P : Program} {w : World} {K : PySem.W.Frag} {σ : L2.St} {H : Hp} {te td ty tv : TE}
def rVals (P : Program) (w : World) : V → List V → Hp → VK → Prop := fun x xs H Q => ∃ a l, x = .ref a ∧ xs = [] ∧ Rd H a (NDO P w a l) ∧ ∀ p, H p = none → Q (.ref p) (upd H p (viewVO p a))
def rLV (P : Program) (w : World) : List V → Hp → VK → Prop := fun xs H Q => ∃ p a l, xs = [.ref p] ∧ H p = some (viewVO p a) ∧ Rd H a (NDO P w a l) ∧ ∀ q, H q = none → Q (.ref q) (upd H q (.lst (l.map fun x => x.2.2)))
/-- list(d.values()) -/
theorem evp_vals {ks ds : List NestedKey} (h : EvP te σ H (fun v H => ∃ a, v = .ref a ∧ DD P w K H a ks ds)) : EvP (tCB (rLV P w) (tCons (tNdM0 P w (rVals P w) te) tNil)) σ H (IsLD K ds) := fun H1 a Q q =>
  h H1 a _ fun v H2 e2 ⟨b, ev, kvs, ⟨l, hr, hk, e⟩, h2, h3⟩ => ⟨⟨b, l, ev, hr⟩, b, l, ev, rfl, hr, fun p hp => by
    have e3 : Ex H2 (upd H2 p (viewVO p b)) := Ex.new hp
    refine ⟨p, b, l, rfl, upd_same, ex_rd e3 hr, fun q' hq => ?_⟩
    have e4 := Ex.new (o := .lst (l.map fun x => x.2.2)) hq
    refine q _ _ ((e2.trans e3).trans e4) ⟨q', _, rfl, upd_same, ?_⟩
    subst e
    have : (prs l).map (·.2) = l.map fun x => x.2.2 := by unfold prs; rw [List.map_map]; rfl
    rw [this] at h3
    exact (h3.ex e3).ex e4⟩
theorem valV_none {α : Type} [DecidableEq α] {kvs : List (α × V)} {k : α} (h : k ∉ kvs.map (·.1)) : valV kvs k = none := by
  cases hv : valV kvs k with
  | none => rfl
  | some u =>
    exfalso
    have hh : (valV kvs k).isSome = true := by rw [hv]; rfl
    rw [← valV_any, List.any_eq_true] at hh
    obtain ⟨z, hz1, hz2⟩ := hh
    exact h (List.mem_map.mpr ⟨z, hz1, of_decide_eq_true hz2⟩)
/-- d[k] = v, k new -/
theorem dw_new {a b : Addr} {l : List Ent} {ks ds kk : List NestedKey} {d : NestedKey} {u : V} (l1 : H a = some (NDO P w a l)) (l2 : Dk K H l) (l3 : (prs l).map (·.1) = ks) (l4 : TvA K H ((prs l).map (·.2)) ds) (hn : (.tup kk : NestedKey) ∉ ks) (hk : Tv K H (.ref b) (.tup kk)) (z : (NestedKey.tup kk).depth ≤ 8) (hu : Tv K H u d) :
    DW P w K (upd H a (NDO P w a (putE l (.tup kk) b u))) a (ks ++ [.tup kk]) (ds ++ [d]) := by
  have k9 : Kp H (upd H a (NDO P w a (putE l (.tup kk) b u))) := Kp.upd (nrd_ext l1)
  have hp : prs (putE l (.tup kk) b u) = prs l ++ [(.tup kk, u)] := by rw [prs_put, putK_new _ (valV_none (by rw [l3]; exact hn))]
  refine ⟨_, ⟨_, upd_same, (l2.put u hk z).kp k9, rfl⟩, ?_, ?_⟩
  · rw [hp, List.map_append, l3]
    rfl
  · rw [hp, List.map_append]
    exact TvA.append (l4.kp k9) (.cons (hu.kp k9) .nil)
/-- d[k] = v, k there already with the same data -/
theorem dw_old {a b : Addr} {l : List Ent} {ks ds kk : List NestedKey} {d : NestedKey} {u : V} {i : Nat} (l1 : H a = some (NDO P w a l)) (l2 : Dk K H l) (l3 : (prs l).map (·.1) = ks) (l4 : TvA K H ((prs l).map (·.2)) ds) (hnd : ks.Nodup) (hi : ks[i]? = some (.tup kk)) (hd : ds[i]? = some d) (hk : Tv K H (.ref b) (.tup kk)) (z : (NestedKey.tup kk).depth ≤ 8) (hu : Tv K H u d) :
    DW P w K (upd H a (NDO P w a (putE l (.tup kk) b u))) a ks ds := by
  have k9 : Kp H (upd H a (NDO P w a (putE l (.tup kk) b u))) := Kp.upd (nrd_ext l1)
  have hm : (.tup kk : NestedKey) ∈ (prs l).map (·.1) := by rw [l3]; exact List.mem_of_getElem? hi
  have hp : prs (putE l (.tup kk) b u) = (prs l).map fun kv => if kv.1 = .tup kk then (kv.1, u) else kv := by
    rw [prs_put]
    unfold putK
    rw [if_pos]
    rw [List.any_eq_true]
    obtain ⟨x, hx, e⟩ := List.mem_map.mp hm
    exact ⟨x, hx, decide_eq_true e⟩
  refine ⟨_, ⟨_, upd_same, (l2.put u hk z).kp k9, rfl⟩, ?_, ?_⟩
  · rw [hp, List.map_map, ← l3]
    refine List.map_congr_left fun x _ => ?_
    show (if x.1 = .tup kk then (x.1, u) else x).1 = x.1
    split <;> rfl
  · rw [hp, List.map_map]
    have key : ∀ (m : List (NestedKey × V)) (es : List NestedKey), TvA K H (m.map (·.2)) es → (∀ (j : Nat) (x : NestedKey × V), m[j]? = some x → x.1 = .tup kk → es[j]? = some d) → TvA K H (m.map ((·.2) ∘ fun kv => if kv.1 = .tup kk then (kv.1, u) else kv)) es := by
      intro m
      induction m with
      | nil =>
        intro es h _
        exact h
      | cons x m ih =>
        intro es h hj
        cases h with
        | @cons _ _ e es' h1 h2 =>
          refine .cons ?_ (ih _ h2 fun j y hy ey => by simpa using hj (j + 1) y (by simpa using hy) ey)
          show Tv K H (if x.1 = .tup kk then (x.1, u) else x).2 e
          by_cases q : x.1 = .tup kk
          · rw [if_pos q]
            have := hj 0 x rfl q
            have e' : e = d := by simpa using this
            rw [e']
            exact hu
          · rw [if_neg q]
            exact h1
    refine (key _ _ l4 fun j x hx ex => ?_).kp k9
    have hj : ks[j]? = some (.tup kk) := by
      rw [← l3, List.getElem?_map, hx]
      show some x.1 = _
      rw [ex]
    have hji : j = i := by
      obtain ⟨h1, h1'⟩ := List.getElem?_eq_some_iff.mp hj
      obtain ⟨h2, h2'⟩ := List.getElem?_eq_some_iff.mp hi
      have pw := List.pairwise_iff_getElem.mp hnd
      rcases Nat.lt_trichotomy j i with h | h | h
      · exact absurd (h1'.trans h2'.symm) (pw j i h1 h2 h)
      · exact h
      · exact absurd (h2'.trans h1'.symm) (pw i j h2 h1 h)
    subst hji
    exact hd
theorem sp_putNew {a : Addr} {ks ds kk : List NestedKey} {d : NestedKey} {D : Ends} (hD : DW P w K H a ks ds) (hn : (.tup kk : NestedKey) ∉ ks) (hv : EvD K tv σ H d) (ho : Ev td σ H (.ref a)) (hk : EvD K ty σ H (.tup kk)) (z : (NestedKey.tup kk).depth ≤ 8) (hl : ks.length < 100000)
    (k : ∀ H', ExB a H H' → Kp H H' → DW P w K H' a (ks ++ [.tup kk]) (ds ++ [d]) → D.nx σ H') : sNdPut P w K td ty tv D σ H :=
  hv H (Ex.refl H) _ fun u H1 e1 hu => ho H1 e1 _ fun H2 e2 => hk H2 (e1.trans e2) _ fun y H3 e3 hy => by
    obtain ⟨l, l1, l2, l3, l4⟩ := dw_obj hD
    have e := (e1.trans e2).trans e3
    obtain ⟨b, xs, rfl, hsq, hta⟩ := Tv.tupI hy
    have hll : l.length < sizeLine := by
      have := congrArg List.length l3
      rw [List.length_map] at this
      unfold prs at this
      rw [List.length_map] at this
      exact sz_lt (by omega)
    refine ⟨a, l, kk, b, rfl, e _ _ l1, l2.kp (.ex e), rfl, hy, z, hll, ?_⟩
    exact k _ ((ExB.of e).trans ExB.upd) ((Kp.ex e).trans (Kp.upd (nrd_ext (e _ _ l1)))) (dw_new (e _ _ l1) (l2.kp (.ex e)) l3 (l4.ex e) hn hy z (Tv.ex hu (e2.trans e3)))
theorem sp_putOld {a : Addr} {ks ds kk : List NestedKey} {d : NestedKey} {i : Nat} {D : Ends} (hD : DW P w K H a ks ds) (hnd : ks.Nodup) (hi : ks[i]? = some (.tup kk)) (hd : ds[i]? = some d) (hv : EvD K tv σ H d) (ho : Ev td σ H (.ref a)) (hk : EvD K ty σ H (.tup kk)) (z : (NestedKey.tup kk).depth ≤ 8) (hl : ks.length < 100000)
    (k : ∀ H', ExB a H H' → Kp H H' → DW P w K H' a ks ds → D.nx σ H') : sNdPut P w K td ty tv D σ H :=
  hv H (Ex.refl H) _ fun u H1 e1 hu => ho H1 e1 _ fun H2 e2 => hk H2 (e1.trans e2) _ fun y H3 e3 hy => by
    obtain ⟨l, l1, l2, l3, l4⟩ := dw_obj hD
    have e := (e1.trans e2).trans e3
    obtain ⟨b, xs, rfl, hsq, hta⟩ := Tv.tupI hy
    have hll : l.length < sizeLine := by
      have := congrArg List.length l3
      rw [List.length_map] at this
      unfold prs at this
      rw [List.length_map] at this
      exact sz_lt (by omega)
    refine ⟨a, l, kk, b, rfl, e _ _ l1, l2.kp (.ex e), rfl, hy, z, hll, ?_⟩
    exact k _ ((ExB.of e).trans ExB.upd) ((Kp.ex e).trans (Kp.upd (nrd_ext (e _ _ l1)))) (dw_old (e _ _ l1) (l2.kp (.ex e)) l3 (l4.ex e) hnd hi hd hy z (Tv.ex hu (e2.trans e3)))
end
section
variable {P : Program} {w : World} {K : PySem.W.Frag} {mg : Str → Option Value} {base : Heap} {aN aO : Addr} {tC tM : Tok}
theorem sc_shown_by_shares : FnScope ["sizes", "shares", "content", "found", "whole", "box"] ["sizes", "shares", "content"] (defScope (top 51)) := ⟨rfl, rfl, rfl, by decide +kernel, rfl, by decide +kernel, by decide +kernel⟩
abbrev rK (r : Row) : List NestedKey := r.map fun x => eL x.1
abbrev rD (B : Int) (r : Row) : List NestedKey := r.map fun x => eF (lw x.2 B)
def fShown (P : Program) (w : World) (K : PySem.W.Frag) : List V → Hp → VP → Prop := fun vs H R => ∃ (s : V) (a : Addr) (c : V) (ns : List Nat) (B : Int) (kvs : Bks) (cc : List Int), vs = [s, .ref a, c] ∧ Tv K H s (eL (zL ns)) ∧ DW P w K H a (bK kvs) (bD B kvs) ∧ Gd ns B kvs ∧ Tv K H c (eL cc) ∧ cc ∈ contents ns ∧
  R = fun v H2 => ∃ b, v = .ref b ∧ H b = none ∧ DW P w K H2 b (rK (shown ns.length B kvs cc)) (rD B (shown ns.length B kvs cc))
theorem fn_shown_by_shares (D : Df K mg "shown_by_shares" "shown_by_shares" (top 51) ["sizes", "shares", "content"]) (T : Txt K mg aN aO tC tM) (G_is_in : Fn P w K mg base "is_in" 2 ["box", "content"] (spD K fIn)) (G_total : Fn P w K mg base "total" 4 ["row"] (spG (fTotal K)))
    (G_is_below : Fn P w K mg base "is_below" 1 ["one", "other"] (spD K fBelow)) (G_all_columns : Fn P w K mg base "all_columns" 1 ["columns"] (spD K (fAllC K))) (G_minus : Fn P w K mg base "minus" 4 ["one", "other"] (spD K (fMinus K))) :
    Fn P w K mg base "shown_by_shares" 5 ["sizes", "shares", "content"] (spG (fShown P w K)) := by
  refine D.fn fun f fd F => ?_
  refine F.ok sc_shown_by_shares (fun vs H Q E h => by obtain ⟨R, ⟨s, a, c, ns, B, kvs, cc, rfl, _⟩, _⟩ := h; rfl) (fun cdv A outer s H vs Q E hr h => ?_)
  obtain ⟨R, ⟨v, a, c, ns, B, kvs, cc, rfl, d1, hD, g, dc, hcc, rfl⟩, k⟩ := h
  have hu64 := hr.units
  have hu9 : (A.deeper (envOfC "shown_by_shares" (defScope (top 51)) s.heap.objs.size f cdv)).units + 9 < cLine := by omega
  refine ⟨_, (pss_cons (ps_lock (ps_setNdc (i := 3) (own := [(("box" : Str), 5)]) (g := gName 5) hu9 rfl sc_shown_by_shares.nd rfl rfl (sw_trueD rfl rfl rfl rfl) (pi_nd (pv 1)) (blkOk_by (own := [(("box" : Str), 5)]) (N := ["sizes", "shares", "content", "found", "whole", "box"]) (sc := defScope (top 51)) (by decide +kernel)) (fun _ _ _ _ _ => (pg_name (i := 5) sc_shown_by_shares.nd rfl (.inl rfl))) (fun _ _ _ _ _ => (pts_one (pt_val (pe_callF G_is_in (hr.mono (by decide)) (pa_cons (pv 5) (pa_cons (pv 2) pa_nil)))))) (fun _ _ _ _ _ => (pe_ix (r := rIxT K) ix_tup (pv 5) pe_int (fun _ _ => rfl))) (fun _ _ _ _ _ => (pe_ndGetK (P := P) (w := w) (K := K) rfl rfl rfl hu9 (pv 1) (pv 5) (fun _ _ => rfl)))))
      (pss_cons (ps_set (i := 4) sc_shown_by_shares.nd rfl (.inl rfl) (pe_callF G_total (hr.mono (by decide)) (pa_cons (pe_callTy (call_ndList rfl) (by rfl) T.list boot_list (pa_cons (pe_ndM0 PySem.F.slot_dict_values PySem.F.type_dict_values mt_ndValues (pv 3)) pa_nil)) pa_nil)))
      (pss_cons (ps_if (pt_val (pe_callF G_is_below (hr.mono (by decide)) (pa_cons (pe_glob (v := V.ref aO) (by rfl) T.gONE rfl) (pa_cons (pv 4) pa_nil)))) (pss_one ps_never) pss_nil)
      (pss_cons (ps_ndPut hu9 (pv 3) (pe_callF G_all_columns (hr.mono (by decide)) (pa_cons (pe_callB (r := rLenS K) call_len_seq (by rfl) T.len boot_len (pa_cons (pv 0) pa_nil)) pa_nil)) (pe_callF G_minus (hr.mono (by decide)) (pa_cons (pe_glob (v := V.ref aO) (by rfl) T.gONE rfl) (pa_cons (pv 4) pa_nil))) rfl)
      (pss_one (ps_ret (pv 3))))))), ?_⟩
  obtain ⟨l, l1, l2, l3, l4⟩ := dw_obj hD
  have hcol := g.col
  have hgl := g.len
  have hco := con_ok g.sz hcc
  have hlk : (prs l).length = kvs.length := by
    have := congrArg List.length l3
    rw [List.length_map, List.length_map] at this
    exact this
  have hzl : ((zL ns).map NestedKey.num).length = ns.length := map_len (zL_len ns)
  have hb := g.bot
  have hkeys : ((kvs.filter (inC cc)).map fun x => eL x.1.1) = rK (rowM kvs cc) := by
    unfold rK rowM
    rw [List.map_map]
    rfl
  have hvals : ((kvs.filter (inC cc)).map fun x => eF (lw x.2 B)) = rD B (rowM kvs cc) := by
    unfold rD rowM
    rw [List.map_map]
    rfl
  have hnd : ((kvs.filter (inC cc)).map fun x => eL x.1.1).Nodup := by
    rw [hkeys]
    unfold rK
    rw [List.Nodup, List.pairwise_map]
    exact (List.pairwise_map.mp g.rowM_nd).imp fun {a b} h e => h (eL_inj e)
  -- found
  refine qp_lockA (R := fun v H2 => ∃ D, v = .ref D ∧ H D = none ∧ DW P w K H2 D (rK (rowM kvs cc)) (rD B (rowM kvs cc))) l1 mut_ext (fun od => evp_ndc (K := K) (P := P) (w := w) (H := upd H a (.frz od (NDO P w a l))) (Y := fun i v H => ∃ k, ((prs l).map (·.1))[i]? = some k ∧ Tv K H v k) kvs (inC cc) (fun x => eL x.1.1) (fun _ x => IsD K (eF (lw x.2 B))) (fun D a v H H' _ kp h => h.kp kp)
    (hlk ▸ evi_nd (ev_var rfl) upd_same (l2.kp (kp_lock l1))) (by omega) hnd (fun a => ⟨_, rfl⟩) (fun a => by rw [depth_eL]; decide) fun i y x H2 hy e2 ⟨kk, hk, tv⟩ => ?_) (fun od v H' e h => ?_) fun vf H1 e1 ⟨D, ef, fD, hDD⟩ => ?_
  · rw [l3] at hk
    obtain ⟨y', hy', rfl⟩ := bK_get hk
    rw [hy] at hy'
    cases hy'
    obtain ⟨g1, g2, _⟩ := g.key y (List.mem_of_getElem? hy)
    have gp := pats_ok hcol.1 g1
    have hdd : DD P w K H2 a (bK kvs) (bD B kvs) := (dd_lock (od := od) l1 l2 l3 l4).ex e2
    have dc2 : Tv K H2 c (eL cc) := (dc.kp (kp_lock l1)).ex e2
    refine gvg_name ⟨rfl, et_is (et_B (evp_callD (ead_cons (evd_var rfl tv) (ead_cons (evd_var rfl dc2) ead_nil)) ⟨y.1.1, y.1.2, cc, rfl, pat_in gp.1 hco.1, by omega, rfl⟩).ev) rfl, fun _ => ⟨ev_ix0 (evd_var rfl tv) ev_c, fun D' _ => ?_⟩⟩
    exact evd_ndGet (evp_var rfl fun H5 e5 => ⟨a, rfl, hdd.ex e5⟩) (evd_var rfl tv) (bK_nd g.nd) (bK_at hy) (bD_at hy) (by rw [depth_eB]; decide)
  · obtain ⟨D', rfl, h1, h2⟩ := IsN.dw h
    have hne : D' ≠ a := fun z => by
      subst z
      rw [upd_same] at h1
      cases h1
    rw [hkeys, hvals] at h2
    refine ⟨D', rfl, ?_, h2.exB hne ExB.upd (Kp.upd (nrd_frz (e _ _ upd_same) (fun ys z => by cases z)))⟩
    rw [upd_ne hne] at h1
    exact h1
  subst ef
  -- whole
  have hT : EvD K _ (start ["sizes", "shares", "content", "found", "whole", "box"] [v, V.ref a, c] |>.set 3 (some (V.ref D))) H1 (eF (lw (spent kvs cc) B)) := evp_call (P := IsD K (eF (lw (spent kvs cc) B))) (F := fTotal K) (E := EN) (eap_cons (evp_vals (evp_var (i := 3) (v := V.ref D) rfl fun H2 e2 => ⟨D, rfl, hDD.r.ex e2⟩)) sty_LD eap_nil) fun vs H4 e4 ⟨v, ws, ev, ⟨l', ys, el, hl, tl⟩, ew⟩ => ⟨_, ⟨l', ys, (rowM kvs cc).map (·.2), B, by rw [ev, ew, el], hl, by rw [List.map_map]; exact tl, hb.1, hb.2, rfl⟩, fun v H5 e5 p => by
    have e : ((rowM kvs cc).map (·.2)).sum = spent kvs cc := by
      unfold rowM spent
      rw [List.map_map]
      rfl
    rw [e] at p
    exact p⟩
  refine qp_asg hT fun vw H2 e2 hw => ?_
  have hO : ∀ {H' σ'}, EvD K (L2.tC (V.ref aO)) σ' H' (eF (lw B B)) := .of ev_c fun H3 _ => by rw [lw_one hb.1]; exact T.tO H3
  have hs := g.sum cc hcc
  refine q_when (b := false) (et_is (et_B (evp_callD (ead_cons hO (ead_cons (evd_var rfl hw) ead_nil)) ⟨B, spent kvs cc, B, rfl, hb.1, hb.2, rfl⟩).ev) (decide_eq_false (by omega))) (fun h => by cases h) fun _ H3 e3 => ?_
  have e13 := (e1.trans e2).trans e3
  have hallk : (eL (allC ns.length)) ∉ rK (rowM kvs cc) := fun h => by
    obtain ⟨x, hx, e⟩ := List.mem_map.mp h
    exact g.ne_all hx (eL_inj e)
  refine sp_putNew (D := { nx := tRet (tVar 3) _, rt := _ }) (hDD.ex (e2.trans e3)) hallk (evp_callD (ead_cons hO (ead_cons (evd_var rfl (Tv.ex hw e3)) ead_nil)) ⟨B, spent kvs cc, B, rfl, hb.1, hb.2, rfl⟩) (ev_var rfl) (evp_callD (ead_cons (evd_i (Ev.castI (ev_lenD (evd_var rfl (d1.ex e13))) (j := (ns.length : Int)) (by rw [hzl]))) ead_nil) ⟨ns.length, rfl, by omega, rfl⟩) (by rw [depth_eL]; decide) ?_ fun H4 eb kp hD4 => ?_
  · unfold rK rowM
    rw [List.length_map, List.length_map]
    have := List.length_filter_le (inC cc) kvs
    omega
  refine s_ret (ev_var rfl) fun H5 e5 => k _ _ ?_ ⟨D, rfl, fD, ?_⟩
  · exact (ExB.ex fD ((ExB.of e13).trans (eb.trans (.of e5))))
  · have := hD4.ex e5
    unfold shown rK rD
    rw [List.map_append, List.map_append]
    exact this
end
end FM
/-! != of instances whose class has an own __eq__ and object's __ne__. -/
namespace FM
section
open PySem PySem.W PySem.Calls PyProof.Rows PyProof.V PySem.Spec
section
variable {prog : Program} {w : World} {A : Around} {E : Value → Shared → Prop} {s : Shared} {K : Frag} {x y C f : Addr} {ox : Obj} {od : Option Obj} {name : Str} {tb : Value}
theorem ifBoundB_K {M : Model} {id : String} {args : List Value} {Q : Option Value → Shared → Prop} (X : K.In s.heap) (I : InstAt s.heap x ox C od) (hs : findIn K (.ref C) name = some (some (.builtin id))) (hb : ∀ self, bindSpecial (.builtin id) self = pure (.builtin id, [self]))
    (h : wpAny M A (call (.builtin id) (.ref x :: args)) (fun v => Q (some v)) E s) : wpAny M A (callSpecialIfBound? (.ref x) name args) Q E s := by
  simp only [callSpecialIfBound?, bindSpecialIfBound?]
  refine wpAny_holding (wpAny_bind (wpAny_bind (wpAny_bind (I.type.here ((looks_findIn X hs).here ?_)))))
  dsimp only
  simp only [hb]
  refine wpAny_bind (wpAny_askSetting (wpAny_ite ?_))
  have fin : wpAny M A (call (.builtin id) ([.ref x] ++ args) >>= fun v => pure (some v)) Q E s := wpAny_bind (wpAny_mono h (fun v s' h' => wpAny_pure h') fun _ _ h' => h')
  split
  · exact wpAny_bind (wpAny_pure (wpAny_pure fin))
  · exact wpAny_tryCatch (wpAny_bind (wpAny_pure (wpAny_pure fin)))
theorem ne_entry {Q : Fin → Shared → Prop} (X : K.In s.heap) (I : InstAt s.heap x ox C od) (hu : A.units < cLine) (heq : findIn K (.ref C) "__eq__" = some (some (.ref f))) (hf : isFn K (.ref f) = true)
    (hcall : wpAny (model prog w) A (call (.ref f) [.ref x, .ref y]) (fun v s' => ∃ b, v = .bool b ∧ Q (.done (.ret (.bool (!b)))) s') E s) :
    wpAny (model prog w) A (Builtin.«object.__ne__» ⟨[.ref x, .ref y], []⟩) Q E s := by
  unfold Builtin.«object.__ne__»
  repeat (first
    | with_reducible refine wpAny_cRoomFor hu ?_
    | (refine wpAny_bind (m := callSpecialIfBound? (.ref x) (Str.ofString "__eq__") [.ref y])
        (ifBound_K X I heq hf (wpAny_mono hcall (fun r s' hr => by
          obtain ⟨b, rfl, hq⟩ := hr
          repeat (first | exact hq | exact wpAny_pure hq | exact wpAny_truthy_bool hq | (refine wpAny_bind (m := truthy (.bool _)) (wpAny_truthy_bool ?_)) | wp_step)) fun _ _ e => e)))
    | wp_step)
theorem ne_K {Q : Value → Shared → Prop} (hu : A.units + 1 < cLine) (X : K.In s.heap) (I : InstAt s.heap x ox C od) (hb : Looks (model prog w) s.heap (typeOf (.ref y)) tb) (hn : notFirst K C tb = true)
    (hne : findIn K (.ref C) "__ne__" = some (some (.builtin "object.__ne__"))) (hm : mroIn K C (.type "object") = some true) (heq : findIn K (.ref C) "__eq__" = some (some (.ref f))) (hf : isFn K (.ref f) = true)
    (h : wpAny (model prog w) A.in1 (call (.ref f) [.ref x, .ref y]) (fun v s' => ∃ b, v = .bool b ∧ Q (.bool (!b)) s') E s) : wpAny (model prog w) A (richCompare .NotEq (.ref x) (.ref y)) Q E s := by
  have hi : Looks (model prog w) s.heap (isInstance (.ref x) (.type "object")) true := I.type.andThen (looks_mroIn X hm)
  have one : wpAny (model prog w) A (tryCompare (.ref x) "__ne__" (.ref y)) (fun r s' => ∃ v, r = some v ∧ Q v s') E s := by
    unfold tryCompare
    refine wpAny_bind (ifBoundB_K X I hne PySem.F.cmp_object.ne.bind (wpAny_call (codeAny_call_builtin PySem.F.cmp_object.ne.plain PySem.F.cmpEntry_ne
      (check_slot PySem.F.cmpKind_ne PySem.F.cmpSplit_ne hi (PySem.F.cmpArgs_ne _ _)
        (ne_entry X I (by show A.units + 1 < cLine; exact hu) heq hf (wpAny_mono h (fun v s' hv => ?_) fun _ _ e => e))))))
    obtain ⟨b, rfl, hq⟩ := hv
    refine ⟨b, rfl, ?_⟩
    exact wpAny_pure ⟨_, rfl, hq⟩
  unfold richCompare
  simp only [oneThing_ref]
  refine wpAny_holding (wpAny_bind (wpAny_cRoomFor (Nat.lt_of_succ_lt hu) ?_))
  refine wpAny_bind (I.type.here (wpAny_bind (hb.here ?_)))
  split
  · rename_i q
    have e : subIn K tb (.ref C) = some false := by
      rcases Bool.or_eq_true_iff.mp hn with e | e
      · rw [beq_iff_eq.mp e] at q; simp at q
      · exact beq_iff_eq.mp e
    refine wpAny_bind ((looks_subIn X e).here ?_)
    simp only [Bool.false_eq_true, if_false]
    refine wpAny_bind (wpAny_mono one (fun r s' z => ?_) fun _ _ e => e)
    obtain ⟨v, rfl, hq⟩ := z
    exact wpAny_pure hq
  · refine wpAny_bind (wpAny_pure ?_)
    simp only [Bool.false_eq_true, if_false]
    refine wpAny_bind (wpAny_mono one (fun r s' z => ?_) fun _ _ e => e)
    obtain ⟨v, rfl, hq⟩ := z
    exact wpAny_pure hq
end
end
open PySem PySem.Spec PyProof.Rows L2 Evl
/-- what of the class C must be so for != by its own __eq__ -/
structure NeCls (K : PySem.W.Frag) (C f : Addr) : Prop where
  ne : PySem.W.findIn K (.ref C) "__ne__" = some (some (.builtin "object.__ne__"))
  mro : PySem.W.mroIn K C (.type "object") = some true
  eq : PySem.W.findIn K (.ref C) "__eq__" = some (some (.ref f))
  fn : PySem.W.isFn K (.ref f) = true
/-- != of two instances, by a promise of __eq__ that it is True -/
def rNeI (K : PySem.W.Frag) (f : Addr) (F : List V → Hp → VP → Prop) : R2 := fun x y H Q => ∃ a b C C' dx dy fs gs, x = .ref a ∧ y = .ref b ∧ H a = some (.ins C dx fs) ∧ H b = some (.ins C' dy gs) ∧ NeCls K C f ∧ PySem.W.notFirst K C (.ref C') = true ∧
  F [.ref a, .ref b] H (IsV (.bl true)) ∧ ∀ H', Ex H H' → Q (.bl false) H'
theorem op_neI {X : Cx} {n : Nat} {f : Addr} {fd : FuncData} {ps : List Str} {F : List V → Hp → VP → Prop} (G : FnOk X.prog X.w X.K X.mg X.base CX0 n f fd ps (spG F)) (hb : Binds X.K fd ps []) (hr : Room (n + 1) X.A) : OpR X (compareOp .NotEq) (rNeI X.K f F) := by
  intro pins s σ H x y v u Q I rx ry h
  obtain ⟨a, b, C, C', dx, dy, fs, gs, rfl, rfl, ha, hbb, N, hnf, hF, q⟩ := h
  cases rx
  cases ry
  show wpAny (model X.prog X.w) X.A (richCompare .NotEq (.ref a) (.ref b)) (EP X pins σ Q) X.xe s
  obtain ⟨mA, J, _⟩ := ins_get I.hok ha
  obtain ⟨mB, J', _⟩ := ins_get I.hok hbb
  obtain ⟨od, J, _⟩ := J.look
  obtain ⟨od', J', _⟩ := J'.look
  refine ne_K (by have := hr.units; omega) I.kIn J J'.type hnf N.ne N.mro N.eq N.fn ?_
  have hsp : spG F [.ref a, .ref b] H (fun v H' => v = .bl true ∧ Ex H H') EN := ⟨_, hF, fun v H2 e p => ⟨p, e⟩⟩
  have e0 : Env0 X.prog X.w X.K X.mg X.base X.A.in1 X.stack s H := by
    have e := I.env0
    exact ⟨e.frames, e.mod, e.bs, e.bsz, e.funs, e.frf, e.hok, e.bare⟩
  have hl := G.len _ _ _ _ hsp
  have r2 : Vals [V.ref a, V.ref b] [Value.ref a, Value.ref b] := .cons rfl (.cons rfl .nil)
  refine wpAny_call (codeAny_mono (G.run X.A.in1 X.stack s H ⟨[.ref a, .ref b], []⟩ [.ref a, .ref b] [.ref a, .ref b] _ EN hr.in1 e0 (by
    have := hb s [.ref a, .ref b] I.kIn (by simpa using hl)
    simpa using this) r2 hsp) fun r s' hq => ?_)
  cases r with
  | error e => exact False.elim hq
  | ok fl =>
    cases fl with
    | ret w =>
      obtain ⟨z, H', I', rz, ez, ex⟩ := I.after hq
      subst ez
      cases rz
      exact ⟨true, rfl, .bl false, H', I', rfl, q H' ex⟩
    | next => exact False.elim hq
    | brk => exact False.elim hq
    | cont => exact False.elim hq
end FM
/-! Habits. -/
namespace FM
open PySem PySem.Spec PyProof.Rows L2 Evl
/-- what the top has made of the two classes -/
structure TxC (K : PySem.W.Frag) (mg : Str → Option Value) (CH CR fK fI fR fE : Addr) : Prop where
  clH : Cls K CH
  clR : Cls K CR
  sH : NoAttr K CH "sizes"
  rH : NoAttr K CH "rows"
  kH : NoAttr K CH "kept"
  sR : NoAttr K CR "sizes"
  rR : NoAttr K CR "rows"
  kR : NoAttr K CR "kept"
  mKH : Meth K CH "keep" fK
  mKR : Meth K CR "keep" fK
  MkHabit : Mk K CH fI
  MkRawHabit : Mk K CR fR
  gHabit : mg "Habit" = some (.ref CH)
  gRawHabit : mg "RawHabit" = some (.ref CR)
  neR : NeCls K CR fE
  nfH : PySem.W.notFirst K CR (.ref CH) = true
  nfR : PySem.W.notFirst K CR (.ref CR) = true
  caH : PySem.W.findIn K (.ref CH) "__class__" = some (some (.builtin "object.__class__"))
  caR : PySem.W.findIn K (.ref CR) "__class__" = some (some (.builtin "object.__class__"))
  gs : PySem.W.specialIn K (.builtin "object.__class__") "__get__" = some (some (.builtin "getset_descriptor.__get__"))
  tk : PySem.W.takesIn K (.builtin "object.__class__") = some true
  mrH : PySem.W.mroIn K CH (.type "object") = some true
  mrR : PySem.W.mroIn K CR (.type "object") = some true
  isH : PySem.W.kitOne K (.ref CH) (.ref CH) = some true
  isR : PySem.W.kitOne K (.ref CR) (.ref CH) = some true
/-- a method at f and its promise -/
structure Mp (P : Program) (w : World) (K : PySem.W.Frag) (mg : Str → Option Value) (base : Heap) (f : Addr) (k : Nat) (ps : List Str) (sp : Sp) : Prop where
  ex : ∃ fd : FuncData, FnOk P w K mg base CX0 k f fd ps sp ∧ Binds K fd ps []
/-- a method of the text -/
structure Md (K : PySem.W.Frag) (name qual : Str) (st : Stmt) (f : Addr) (ps : List Str) : Prop where
  ex : ∃ fd : FuncData, Fun K name qual st f fd ∧ Binds K fd ps []
theorem Md.mp {P : Program} {w : World} {K : PySem.W.Frag} {mg : Str → Option Value} {base : Heap} {name qual : Str} {st : Stmt} {f : Addr} {ps : List Str} {k : Nat} {sp : Sp} (h : Md K name qual st f ps) (ok : ∀ fd, Fun K name qual st f fd → FnOk P w K mg base CX0 k f fd ps sp) : Mp P w K mg base f k ps sp :=
  let ⟨fd, h1, h2⟩ := h.ex
  ⟨fd, ok fd h1, h2⟩
theorem pe_methF {X : Cx} {k : Nat} {C f : Addr} {m : Str} {ps : List Str} {sp : Sp} {pos apos : Pos} {o e : Expr} {es : List Expr} {ta : TE} {t : TA} {pl : Sem Bool} (he : PE X o ta) (c : Cls X.K C) (hm : Meth X.K C m f) (h : Mp X.prog X.w X.K X.mg X.base f k ps sp) (hr : Room k X.A) (ha : PA X (e :: es) t)
    (hst : starEach (e :: es) X.env = (false, eval e X.env) :: starEach es X.env := by rfl) (hpl : (backTo pos (starEach es X.env)).any (·.1) = false := by rfl)
    (ht : eval (.Call (.Attribute o m apos) (e :: es) [] pos) X.env = (do
      let ov ← eval o X.env
      standAt apos.atName
      let (f, first) ← holding [ov] (getMethod ov m pl)
      callWith pos f first (backTo pos (starEach (e :: es) X.env)) (backToKw pos (keywordEach [] X.env))) := by rfl) : PE X (.Call (.Attribute o m apos) (e :: es) [] pos) (tMeth C m sp [] EN ta t) := by
  obtain ⟨fd, h1, h2⟩ := h.ex
  exact pe_meth he c hm h1 hr h2 .nil pass0 ha hst hpl ht
theorem pe_makeF {X : Cx} {k : Nat} {C f : Addr} {x : Str} {ps : List Str} {sp : Sp} {p pos : Pos} {e : Expr} {es : List Expr} {t : TA} (M : Mk X.K C f) (h : Mp X.prog X.w X.K X.mg X.base f k ps sp) (hr : Room (k + 1) X.A) (hm : X.mg x = some (.ref C)) (ha : PA X (e :: es) t) (hg : Gl X x := by rfl)
    (hdb : (x == ("__debug__" : Str)) = false := by decide) (he : starEach (e :: es) X.env = (false, eval e X.env) :: starEach es X.env := by rfl) (hpl : (backTo pos (starEach es X.env)).any (·.1) = false := by rfl) :
    PE X (.Call (.Name x p) (e :: es) [] pos) (tMake C sp [] EN t) := by
  obtain ⟨fd, h1, h2⟩ := h.ex
  exact pe_make M h1 hr hg hm h2 .nil pass0 ha hdb he hpl
/-! ### a habit's object -/
theorem k1 : ¬ (("rows" : Str) = "sizes") := by decide +kernel
theorem k2 : ¬ (("kept" : Str) = "sizes") := by decide +kernel
theorem k3 : ¬ (("kept" : Str) = "rows") := by decide +kernel
def hF (s r : V) (d : Addr) : List (Str × V) := putF "kept" (.ref d) (putF "rows" r (putF "sizes" s []))
theorem hF_s (s r : V) (d : Addr) : (hF s r d).lookup ("sizes" : Str) = some s := by
  unfold hF
  rw [lookup_putF, if_neg (fun e => k2 e.symm), lookup_putF, if_neg (fun e => k1 e.symm), lookup_putF, if_pos rfl]
theorem hF_r (s r : V) (d : Addr) : (hF s r d).lookup ("rows" : Str) = some r := by
  unfold hF
  rw [lookup_putF, if_neg (fun e => k3 e.symm), lookup_putF, if_pos rfl]
theorem hF_k (s r : V) (d : Addr) : (hF s r d).lookup ("kept" : Str) = some (.ref d) := by
  unfold hF
  rw [lookup_putF, if_pos rfl]
/-- the rows' data -/
abbrev hR (B : Int) (rs : List Row) : List NestedKey := rs.map fun r => eR (rowE B r)
def Hab (P : Program) (w : World) (K : PySem.W.Frag) (H : Hp) (a C : Addr) (ns : List Nat) (B : Int) (rs : List Row) : Prop := ∃ dx s r d, H a = some (.ins C dx (hF s r d)) ∧ Tv K H s (eL (zL ns)) ∧ Tv K H r (.tup (hR B rs)) ∧ DD P w K H d ((contents ns).map eL) (hR B rs)
theorem Hab.ex {P : Program} {w : World} {K : PySem.W.Frag} {H H' : Hp} {a C : Addr} {ns : List Nat} {B : Int} {rs : List Row} (h : Hab P w K H a C ns B rs) (e : Ex H H') : Hab P w K H' a C ns B rs :=
  let ⟨dx, s, r, d, h1, h2, h3, h4⟩ := h
  ⟨dx, s, r, d, e _ _ h1, h2.ex e, h3.ex e, h4.ex e⟩
/-- a habit whose own dict was not there in H0 -/
def HabN (P : Program) (w : World) (K : PySem.W.Frag) (H0 H : Hp) (a C : Addr) (ns : List Nat) (B : Int) (rs : List Row) : Prop := ∃ d dx s r, H0 d = none ∧ H a = some (.ins C dx (hF s r d)) ∧ Tv K H s (eL (zL ns)) ∧ Tv K H r (.tup (hR B rs)) ∧ DD P w K H d ((contents ns).map eL) (hR B rs)
theorem HabN.hab {P : Program} {w : World} {K : PySem.W.Frag} {H0 H : Hp} {a C : Addr} {ns : List Nat} {B : Int} {rs : List Row} (h : HabN P w K H0 H a C ns B rs) : Hab P w K H a C ns B rs :=
  let ⟨d, dx, s, r, _, h1, h2, h3, h4⟩ := h
  ⟨dx, s, r, d, h1, h2, h3, h4⟩
theorem HabN.back {P : Program} {w : World} {K : PySem.W.Frag} {H0 H1 H : Hp} {a C : Addr} {ns : List Nat} {B : Int} {rs : List Row} (h : HabN P w K H1 H a C ns B rs) (e : Ex H0 H1) : HabN P w K H0 H a C ns B rs :=
  let ⟨d, dx, s, r, h0, h1, h2, h3, h4⟩ := h
  ⟨d, dx, s, r, fresh_back e h0, h1, h2, h3, h4⟩
/-- an old dict is changed -/
theorem HabN.exB {P : Program} {w : World} {K : PySem.W.Frag} {H0 H H' : Hp} {a C D : Addr} {ns : List Nat} {B : Int} {rs : List Row} {o : HO} {φ : Heap → Prop} (h : HabN P w K H0 H a C ns B rs) (h0 : H0 D = some o) (hD : H D = some (.ext φ)) (e : ExB D H H') (k : Kp H H') : Hab P w K H' a C ns B rs := by
  obtain ⟨d, dx, s, r, h00, h1, h2, h3, h4⟩ := h
  exact ⟨dx, s, r, d, e _ _ (fun z => by subst z; rw [h1] at hD; cases hD) h1, h2.kp k, h3.kp k, h4.exB (fun z => by subst z; rw [h0] at h00; cases h00) e k⟩
/-- a dict not yet there is made and changed -/
theorem kp_ins {H H' : Hp} {a C dx : Addr} {fs : List (Str × V)} (h : H a = some (.ins C dx fs)) (e : ExB a H H') : Kp H H' := fun b xs r => by
  have ne : b ≠ a := fun z => nrd_ins h xs (z ▸ r)
  rcases r with r | ⟨o, r⟩
  · exact .inl (e _ _ ne r)
  · exact .inr ⟨o, e _ _ ne r⟩
section
variable {K : PySem.W.Frag} {H : Hp}
theorem zip_ents : ∀ {cs : List (List Int)} {ys zs : List V}, TvA K H ys (cs.map eL) → zs.length = cs.length → ∃ l : List Ent, (l.map fun e => V.ref e.2.1) = ys ∧ (l.map fun e => e.2.2) = zs ∧ l.map (·.1) = cs.map eL ∧ Dk K H l
  | [], ys, zs, h, hl => by
    cases h
    have : zs = [] := List.length_eq_zero_iff.mp hl
    subst this
    exact ⟨[], rfl, rfl, rfl, fun x hx => by cases hx⟩
  | c :: cs, ys, zs, h, hl => by
    cases h with
    | cons h1 h2 =>
      cases zs with
      | nil => cases hl
      | cons z zs =>
        obtain ⟨b, rfl, hb⟩ := Tv.intsI h1
        obtain ⟨l, e1, e2, e3, e4⟩ := zip_ents h2 (Nat.succ.inj hl)
        refine ⟨(eL c, b, z) :: l, by rw [List.map_cons, e1], by rw [List.map_cons, e2], by rw [List.map_cons, e3]; rfl, fun x hx => ?_⟩
        rcases List.mem_cons.mp hx with ex | hx
        · subst ex
          exact ⟨h1, by rw [depth_eL]; decide⟩
        · exact e4 x hx
end
theorem putF_len (f : Str) (v : V) : ∀ fs : List (Str × V), (putF f v fs).length ≤ fs.length + 1
  | [] => Nat.le_refl _
  | (g, x) :: r => by
    unfold putF
    split
    · simp
    · have := putF_len f v r
      rw [List.length_cons, List.length_cons]
      omega
theorem eL_nd {cs : List (List Int)} (h : cs.Nodup) : (cs.map eL).Nodup := by
  rw [List.Nodup, List.pairwise_map]
  exact h.imp fun {a b} h e => h (eL_inj e)
section
variable {P : Program} {w : World} {K : PySem.W.Frag} {mg : Str → Option Value} {base : Heap} {aN aO : Addr} {tC tM : Tok} {CH CR fK fI fR fE : Addr}
theorem sc_Habit_keep : FnScope ["self", "sizes", "rows"] ["self", "sizes", "rows"] (defScope (inClass (top 37) 1)) := ⟨rfl, rfl, rfl, by decide +kernel, rfl, by decide +kernel, by decide +kernel⟩
/-- a new instance gets its fields -/
def spHab (P : Program) (w : World) (K : PySem.W.Frag) (C0 : Addr → Prop) (Ok : List Nat → Int → List Row → Prop) : Sp := fun vs H Q _ => ∃ (a C dx : Addr) (s r : V) (ns : List Nat) (B : Int) (rs : List Row), vs = [.ref a, s, r] ∧ H a = some (.ins C dx []) ∧ C0 C ∧ Tv K H s (eL (zL ns)) ∧ Tv K H r (.tup (hR B rs)) ∧ ns ∈ allSizes ∧ rs.length = (contents ns).length ∧ Ok ns B rs ∧
  ∀ H', ExB a H H' → HabN P w K H H' a C ns B rs → Q .non H'
def AnyOk : List Nat → Int → List Row → Prop := fun _ _ _ => True
theorem mp_keep (D : Md K "keep" "Habit.keep" (inClass (top 37) 1) fK ["self", "sizes", "rows"]) (T : Txt K mg aN aO tC tM) (C : TxC K mg CH CR fK fI fR fE) (G_raw_contents : Fn P w K mg base "raw_contents" 1 ["sizes"] (spD K (fContents K))) :
    Mp P w K mg base fK 2 ["self", "sizes", "rows"] (spHab P w K (fun c => c = CH ∨ c = CR) AnyOk) := by
  refine D.mp fun fd F => ?_
  refine F.ok sc_Habit_keep (fun vs H Q E h => by obtain ⟨a, c, dx, s, r, ns, B, rs, rfl, _⟩ := h; rfl) (fun cdv A outer s H vs Q E hr h => ?_)
  obtain ⟨a, c, dx, vs, vr, ns, B, rs, rfl, ha, hc, hs, hrr, hsz, hl, _, k⟩ := h
  have hu64 := hr.units
  have hu20 : (A.deeper (envOfC "Habit.keep" (defScope (inClass (top 37) 1)) s.heap.objs.size fK cdv)).units + 20 < cLine := by omega
  have cc : Cls K c ∧ NoAttr K c "sizes" ∧ NoAttr K c "rows" ∧ NoAttr K c "kept" := by
    rcases hc with rfl | rfl
    · exact ⟨C.clH, C.sH, C.rH, C.kH⟩
    · exact ⟨C.clR, C.sR, C.rR, C.kR⟩
  refine ⟨_, (pss_cons (ps_fld (pv 0) (pv 1) rfl)
      (pss_cons (ps_fld (pv 0) (pv 2) rfl)
      (pss_one (ps_fld (pv 0) (pe_ndZip rfl hu20 (by rfl) T.dict boot_dict (by rfl) T.zip boot_zip (pa_cons (pe_callF G_raw_contents (hr.mono (by decide)) (pa_cons (pv 1) pa_nil)) (pa_cons (pv 2) pa_nil))) rfl)))), ?_⟩
  refine ⟨vs, rfl, .ref a, rfl, a, c, dx, [], rfl, ha, cc.1, cc.2.1, by show 0 < 1000; decide, ?_⟩
  refine ⟨vr, rfl, .ref a, rfl, a, c, dx, _, rfl, upd_same, cc.1, cc.2.2.1, by show 1 < 1000; decide, ?_⟩
  have b1 : ExB a H (upd (upd H a (.ins c dx (putF "sizes" vs []))) a (.ins c dx (putF "rows" vr (putF "sizes" vs [])))) := ExB.trans ExB.upd ExB.upd
  generalize hH1 : upd (upd H a (.ins c dx (putF "sizes" vs []))) a (.ins c dx (putF "rows" vr (putF "sizes" vs []))) = H1 at *
  have hk1 := kp_ins ha b1
  have ha1 : H1 a = some (.ins c dx (putF "rows" vr (putF "sizes" vs []))) := by rw [← hH1]; exact upd_same
  have hs1 := hs.kp hk1
  have hr1 := hrr.kp hk1
  -- dict(zip(raw_contents(sizes), rows))
  refine evp_callD (K := K) (f := fContents K) (E := EN) (σ := start ["self", "sizes", "rows"] [.ref a, vs, vr]) (H := H1) (ta := tCons (tVar 1) tNil) (ead_cons (evd_var rfl hs1) ead_nil) ⟨ns, rfl, hsz, rfl⟩ H1 (Ex.refl H1) _ fun v H2 e2 ⟨l, ys, ev, hy, ty⟩ => ?_
  subst ev
  obtain ⟨rt, xs, rfl, hsq, htx⟩ := Tv.tupI hr1
  have hxl : xs.length = (contents ns).length := by rw [htx.length, List.length_map, hl]
  obtain ⟨en, g1, g2, g3, g4⟩ := zip_ents ty hxl
  refine ⟨.ref rt, rfl, l, rt, en, rfl, by rw [g1]; exact sq_of hy, by rw [g2]; exact ex_t e2 hsq, g4, by rw [g3]; exact eL_nd (contents_facts ns hsz).1, fun p hp => ?_⟩
  have e3 : Ex H2 (upd H2 p (NDO P w p en)) := Ex.new hp
  have e23 := e2.trans e3
  refine ⟨.ref a, rfl, a, c, dx, _, rfl, e23 _ _ ha1, cc.1, cc.2.2.2, ?_, ?_⟩
  · have h1 := putF_len "rows" (V.ref rt) (putF "sizes" vs [])
    have h2 := putF_len "sizes" vs []
    have h3 : ([] : List (Str × V)).length = 0 := rfl
    omega
  · have npa : p ≠ a := fun z => by
      subst z
      rw [e2 _ _ ha1] at hp
      cases hp
    have b2 : ExB a H (upd (upd H2 p (NDO P w p en)) a (.ins c dx (hF vs (.ref rt) p))) := b1.trans ((ExB.of e23).trans ExB.upd)
    have hk2 := kp_ins ha b2
    have k23 : Kp H2 (upd (upd H2 p (NDO P w p en)) a (.ins c dx (hF vs (.ref rt) p))) := (Kp.ex e3).trans (Kp.upd (nrd_ins (e23 _ _ ha1)))
    have fp : H p = none := by
      cases hx : H p with
      | none => rfl
      | some o =>
        have := (b1.trans (.of e2)) _ _ npa hx
        rw [hp] at this
        cases this
    refine k _ b2 ⟨p, dx, vs, .ref rt, fp, upd_same, hs.kp hk2, hrr.kp hk2, prs en, ⟨en, .inl (by rw [upd_ne npa]; exact upd_same), g4.kp k23, rfl⟩, ?_, ?_⟩
    · unfold prs
      rw [List.map_map, ← g3]
      rfl
    · have e : (prs en).map (·.2) = xs := by
        unfold prs
        rw [List.map_map]
        exact g2
      rw [e]
      exact (htx.ex e2).kp k23
end
end FM
/-! Habits made and compared. -/
namespace FM
open PySem PySem.Spec PyProof.Rows L2 Evl
section
variable {K : PySem.W.Frag} {σ : L2.St} {H : Hp} {wi : TI} {g : TG} {tu : TS} {D : Ends} {tz : TS} {ta : TE} {d : NestedKey}
theorem sp_forI {n : Nat} {Y : Nat → VP} (hi : EvI wi σ H n Y) (Pv : Hp → Nat → L2.St → Hp → Prop) (h0 : ∀ H2, Ex H H2 → Pv H2 0 σ H2) (hx : ∀ H2 i σ' H', Pv H2 i σ' H' → Ex H2 H')
    (hs : ∀ H2 i x σ' H3 H4, Ex H H2 → i < n → Pv H2 i σ' H3 → Ex H3 H4 → Y i x H4 → g x σ' H4 fun σ2 H5 => tu { D with nx := Pv H2 (i + 1), ct := Pv H2 (i + 1), bk := D.nx } σ2 H5) (hd : ∀ H2 σ' H', Ex H H2 → Pv H2 n σ' H' → D.nx σ' H') : tFor wi g tu D σ H :=
  hi H (Ex.refl H) _ fun J H2 e2 ⟨G, Yd, wk, hG, hY⟩ => for_it wk (Pv H2) (h0 H2 e2) (fun i σ' H' _ p => hG H' (hx H2 i σ' H' p)) (fun i x σ' H3 H4 hi' p y => by
    obtain ⟨y1, y2⟩ := hY i H3 x H4 hi' (hx H2 i σ' H3 p) y
    exact hs H2 i x σ' H3 H4 e2 hi' p y1 y2) fun σ' H' p => hd H2 σ' H' e2 p
theorem qp_forI {n : Nat} {Y : Nat → VP} (hi : EvI wi σ H n Y) (Pv : Hp → Nat → L2.St → Hp → Prop) (h0 : ∀ H2, Ex H H2 → Pv H2 0 σ H2) (hx : ∀ H2 i σ' H', Pv H2 i σ' H' → Ex H2 H')
    (hs : ∀ H2 i x σ' H3 H4, Ex H H2 → i < n → Pv H2 i σ' H3 → Ex H3 H4 → Y i x H4 → g x σ' H4 fun σ2 H5 => tu { D with nx := Pv H2 (i + 1), ct := Pv H2 (i + 1), bk := tz D } σ2 H5) (hd : ∀ H2 σ' H', Ex H H2 → Pv H2 n σ' H' → tz D σ' H') : tSeq (tFor wi g tu) tz D σ H :=
  sp_forI (D := { D with nx := tz D }) hi Pv h0 hx hs hd
theorem ev_fld {a C dx : Addr} {fs : List (Str × V)} {f : Str} {v : V} (ha : Ev ta σ H (.ref a)) (hi : H a = some (.ins C dx fs)) (c : Cls K C) (n : NoAttr K C f) (hl : fs.lookup f = some v) : Ev (tFld K ta f) σ H v := fun H1 e Q q =>
  ha H1 e _ fun H2 e2 => ⟨a, C, dx, fs, v, rfl, (e.trans e2) _ _ hi, c, n, hl, q H2 e2⟩
end
section
variable {P : Program} {w : World} {K : PySem.W.Frag} {mg : Str → Option Value} {base : Heap} {aN aO : Addr} {tC tM : Tok} {CH CR fK fI fR fE : Addr}
theorem sc_RawHabit___init__ : FnScope ["self", "sizes", "rows"] ["self", "sizes", "rows"] (defScope (inClass (top 38) 0)) := ⟨rfl, rfl, rfl, by decide +kernel, rfl, by decide +kernel, by decide +kernel⟩
theorem mp_raw (D : Md K "__init__" "RawHabit.__init__" (inClass (top 38) 0) fR ["self", "sizes", "rows"]) (T : Txt K mg aN aO tC tM) (C : TxC K mg CH CR fK fI fR fE) (G_keep : Mp P w K mg base fK 2 ["self", "sizes", "rows"] (spHab P w K (fun c => c = CH ∨ c = CR) AnyOk)) :
    Mp P w K mg base fR 3 ["self", "sizes", "rows"] (spHab P w K (fun c => c = CR) AnyOk) := by
  refine D.mp fun fd F => ?_
  refine F.ok sc_RawHabit___init__ (fun vs H Q E h => by obtain ⟨a, c, dx, s, r, ns, B, rs, rfl, _⟩ := h; rfl) (fun cdv A outer s H vs Q E hr h => ?_)
  obtain ⟨a, c, dx, vs, vr, ns, B, rs, rfl, ha, rfl, hs, hrr, hsz, hl, _, k⟩ := h
  refine ⟨_, (pss_one (ps_expr (pe_methF (pv 0) C.clR C.mKR G_keep (hr.mono (by decide)) (pa_cons (pv 1) (pa_cons (pv 2) pa_nil))))), ?_⟩
  refine ⟨.ref a, rfl, a, dx, [], rfl, ha, rfl, vs, rfl, vr, rfl, ?_⟩
  exact ⟨a, c, dx, vs, vr, ns, B, rs, rfl, ha, .inr rfl, hs, hrr, hsz, hl, trivial, fun H' e hb => k H' e hb⟩
theorem sc_Habit___init__ : FnScope ["self", "sizes", "rows", "at", "row"] ["self", "sizes", "rows"] (defScope (inClass (top 37) 0)) := ⟨rfl, rfl, rfl, by decide +kernel, rfl, by decide +kernel, by decide +kernel⟩
def GoodOk : List Nat → Int → List Row → Prop := fun ns B rs => 0 < B ∧ B ≤ 12 ∧ ∀ r ∈ rs, GoodRow ns.length B r
theorem mp_init (D : Md K "__init__" "Habit.__init__" (inClass (top 37) 0) fI ["self", "sizes", "rows"]) (T : Txt K mg aN aO tC tM) (C : TxC K mg CH CR fK fI fR fE) (G_keep : Mp P w K mg base fK 2 ["self", "sizes", "rows"] (spHab P w K (fun c => c = CH ∨ c = CR) AnyOk))
    (G_are_sizes : Fn P w K mg base "are_sizes" 3 ["thing"] (spD K fSizes)) (G_many_contents : Fn P w K mg base "many_contents" 1 ["sizes"] (spD K fMany)) (G_is_habit_row : Fn P w K mg base "is_habit_row" 5 ["columns", "thing"] (spD K fHabitRow)) :
    Mp P w K mg base fI 6 ["self", "sizes", "rows"] (spHab P w K (fun c => c = CH) GoodOk) := by
  refine D.mp fun fd F => ?_
  refine F.ok sc_Habit___init__ (fun vs H Q E h => by obtain ⟨a, c, dx, s, r, ns, B, rs, rfl, _⟩ := h; rfl) (fun cdv A outer s H vs Q E hr h => ?_)
  obtain ⟨a, c, dx, vs, vr, ns, B, rs, rfl, ha, rfl, hs, hrr, hsz, hl, ⟨b1, b2, hgood⟩, k⟩ := h
  have hu64 := hr.units
  refine ⟨_, (pss_cons (ps_if (pt_not (pt_val (pe_callF G_are_sizes (hr.mono (by decide)) (pa_cons (pv 1) pa_nil)))) pss_never pss_nil)
      (pss_cons (ps_if (pw_or (pt_not (pt_val (pe_callB (r := rIsi K) call_isi (by rfl) T.isinstance boot_isinstance (pa_cons (pv 2) (pa_cons (pe_bltn (v := V.ty "tuple") (by rfl) T.tuple boot_tuple rfl) pa_nil))))) (pw_or1 (pt_cmpR op_ne (pe_callB (r := rLenS K) call_len_seq (by rfl) T.len boot_len (pa_cons (pv 2) pa_nil)) (pe_callF G_many_contents (hr.mono (by decide)) (pa_cons (pv 1) pa_nil)) (nomark _)))).pt pss_never pss_nil)
      (pss_cons (ps_for PassesOwn.never rfl (pi_enumT (by rfl) T.enumerate (pa_cons (pv 2) pa_nil)) (pg_tup (n := 2) rfl (pgs_cons (pg_name (i := 3) sc_Habit___init__.nd rfl (.inl rfl)) (pgs_cons (pg_name (i := 4) sc_Habit___init__.nd rfl (.inl rfl)) pgs_nil)))
        (pss_one (ps_if (pt_not (pt_val (pe_callF G_is_habit_row (hr.mono (by decide)) (pa_cons (pe_callB (r := rLenS K) call_len_seq (by rfl) T.len boot_len (pa_cons (pv 1) pa_nil)) (pa_cons (pv 4) pa_nil))))) (pss_one ps_never) pss_nil)))
      (pss_one (ps_expr (pe_methF (pv 0) C.clH C.mKH G_keep (hr.mono (by decide)) (pa_cons (pv 1) (pa_cons (pv 2) pa_nil)))))))), ?_⟩
  have hf := contents_facts ns hsz
  have v1 : ∀ {H'}, Ex H H' → EvD K (tVar 1) (start ["self", "sizes", "rows", "at", "row"] [.ref a, vs, vr]) H' (eL (zL ns)) := fun e => evd_var rfl (hs.ex e)
  have v2 : ∀ {H'}, Ex H H' → EvD K (tVar 2) (start ["self", "sizes", "rows", "at", "row"] [.ref a, vs, vr]) H' (.tup (hR B rs)) := fun e => evd_var rfl (hrr.ex e)
  have hrl : (hR B rs).length = prodN ns := by rw [List.length_map, hl, hf.2.1]
  refine q_when (b := false) (et_nt (evp_callD (ead_cons (v1 (Ex.refl H)) ead_nil) ⟨ns, rfl, hsz, rfl⟩).ev) (fun h => by cases h) fun _ H1 e1 => ?_
  refine q_when (b := false) (et_false_or (et_nt (ev_isiTup (v2 e1) ev_c)) (et_test (Ev.cast (ev_op (ev_lenD (v2 e1)) (evp_callD (ead_cons (v1 e1) ead_nil) ⟨ns, rfl, hsz, rfl⟩).ev (rv_ne rfl)) (by rw [hrl, decide_eq_true rfl]; rfl)))) (fun h => by cases h) fun _ H2 e2 => ?_
  have e12 := e1.trans e2
  have hzl : ((zL ns).map NestedKey.num).length = ns.length := map_len (zL_len ns)
  refine qp_forI (evi_enumT (ead_cons (v2 e12) ead_nil)) (fun H2' i σ' H' => ∃ x y, σ' = [some (.ref a), some vs, some vr, x, y] ∧ Ex H2' H' ∧ Ex H H') (fun H3 e3 => ⟨none, none, rfl, Ex.refl H3, e12.trans e3⟩) (fun H3 i σ' H' ⟨_, _, _, e, _⟩ => e) ?_ ?_
  · rintro H3 i x σ' H4 H5 e3 hi ⟨y, z, rfl, e4, e5⟩ e6 ⟨d, hd, tv⟩
    have hd' : (hR B rs)[i]? = some d := hd
    rw [List.getElem?_map] at hd'
    obtain ⟨r, hr', rfl⟩ := Option.map_eq_some_iff.mp hd'
    refine gvg_pair tv (fun u v hu hv => ?_) _ fun σ2 H6 e7 q => q
    have e57 := e5.trans e6
    refine s_when (b := false) (et_nt (evp_callD (ead_cons (evd_i (Ev.castI (ev_lenD (evd_var rfl (hs.ex e57))) (j := (ns.length : Int)) (by rw [hzl]))) (ead_cons (evd_var rfl hv) ead_nil)) ⟨ns.length, B, r, rfl, b1, b2, hgood r (List.mem_of_getElem? hr'), rfl⟩).ev) (fun h => by cases h) fun _ H7 e8 => ?_
    exact ⟨some u, some v, rfl, (e4.trans e6).trans e8, e57.trans e8⟩
  · rintro H3 σ' H4 e3 ⟨y, z, rfl, e4, e5⟩
    refine ⟨.ref a, rfl, a, dx, [], rfl, e5 _ _ ha, rfl, vs, rfl, vr, rfl, ?_⟩
    exact ⟨a, c, dx, vs, vr, ns, B, rs, rfl, e5 _ _ ha, .inl rfl, hs.ex e5, hrr.ex e5, hsz, hl, trivial, fun H' e hb => k H' ((ExB.of e5).trans e) (hb.back e5)⟩
theorem sc_Habit___eq__ : FnScope ["self", "other"] ["self", "other"] (defScope (inClass (top 37) 2)) := ⟨rfl, rfl, rfl, by decide +kernel, rfl, by decide +kernel, by decide +kernel⟩
def fEq (P : Program) (w : World) (K : PySem.W.Frag) (CH CR : Addr) : List V → Hp → VP → Prop := fun vs H R => ∃ (a b C1 C2 : Addr) (ns : List Nat) (B : Int) (rs : List Row), vs = [.ref a, .ref b] ∧ (C1 = CH ∨ C1 = CR) ∧ (C2 = CH ∨ C2 = CR) ∧ Hab P w K H a C1 ns B rs ∧ Hab P w K H b C2 ns B rs ∧ R = IsV (.bl true)
theorem TxC.cls (C : TxC K mg CH CR fK fI fR fE) {c : Addr} (h : c = CH ∨ c = CR) : Cls K c ∧ NoAttr K c "sizes" ∧ NoAttr K c "rows" ∧ NoAttr K c "kept" := by
  rcases h with rfl | rfl
  · exact ⟨C.clH, C.sH, C.rH, C.kH⟩
  · exact ⟨C.clR, C.sR, C.rR, C.kR⟩
theorem mp_eq (D : Md K "__eq__" "Habit.__eq__" (inClass (top 37) 2) fE ["self", "other"]) (T : Txt K mg aN aO tC tM) (C : TxC K mg CH CR fK fI fR fE) : Mp P w K mg base fE 1 ["self", "other"] (spG (fEq P w K CH CR)) := by
  refine D.mp fun fd F => ?_
  refine F.ok sc_Habit___eq__ (fun vs H Q E h => by obtain ⟨R, ⟨a, b, C1, C2, ns, B, rs, rfl, _⟩, _⟩ := h; rfl) (fun cdv A outer s H vs Q E hr h => ?_)
  obtain ⟨R, ⟨a, b, C1, C2, ns, B, rs, rfl, h1, h2, ⟨dx, s1, r1, d1, i1, ts1, tr1, _⟩, ⟨dy, s2, r2, d2, i2, ts2, tr2, _⟩, rfl⟩, k⟩ := h
  have hu64 := hr.units
  refine ⟨_, (pss_one (ps_ret (pe_and (pe_callB (r := rIsi K) call_isi (by rfl) T.isinstance boot_isinstance (pa_cons (pv 1) (pa_cons (pe_glob (v := V.ref CH) (by rfl) C.gHabit rfl) pa_nil))) (pe_one (pe_cmpR (r := rEqT K false) (op_eqT hu64) (pe_tup (pa_cons (pe_fld (pv 0) rfl) (pa_cons (pe_fld (pv 0) rfl) pa_nil))) (pe_tup (pa_cons (pe_fld (pv 1) rfl) (pa_cons (pe_fld (pv 1) rfl) pa_nil))) (nomark _)))))), ?_⟩
  obtain ⟨c1, n1, n2, _⟩ := C.cls h1
  obtain ⟨c2, m1, m2, _⟩ := C.cls h2
  have isi : Ev (tCB (rIsi K) (tCons (tVar 1) (tCons (L2.tC (V.ref CH)) tNil))) (start ["self", "other"] [.ref a, .ref b]) H (.bl true) := fun H1 e Q q => by
    refine ⟨.ref b, rfl, .ref b, .ref CH, .ref C2, .ref CH, true, rfl, .own CH, ?_, ?_, q H1 (Ex.refl H1)⟩
    · rcases h2 with rfl | rfl
      · exact .base (.ins (e _ _ i2) c2 C.caH C.gs C.tk C.mrH)
      · exact .base (.ins (e _ _ i2) c2 C.caR C.gs C.tk C.mrR)
    · rcases h2 with rfl | rfl
      · exact C.isH
      · exact C.isR
  have f1 : Ev _ (start ["self", "other"] [.ref a, .ref b]) H s1 := ev_fld (ta := tVar 0) (ev_var rfl) i1 c1 n1 (hF_s ..)
  have f2 : Ev _ (start ["self", "other"] [.ref a, .ref b]) H r1 := ev_fld (ta := tVar 0) (ev_var rfl) i1 c1 n2 (hF_r ..)
  have f3 : Ev _ (start ["self", "other"] [.ref a, .ref b]) H s2 := ev_fld (ta := tVar 1) (ev_var rfl) i2 c2 m1 (hF_s ..)
  have f4 : Ev _ (start ["self", "other"] [.ref a, .ref b]) H r2 := ev_fld (ta := tVar 1) (ev_var rfl) i2 c2 m2 (hF_r ..)
  have t1 : EvD K _ (start ["self", "other"] [.ref a, .ref b]) H (.tup [eL (zL ns), .tup (hR B rs)]) := evd_tup (ead_cons (.of f1 fun H2 e => ts1.ex e) (ead_cons (.of f2 fun H2 e => tr1.ex e) ead_nil)) (by show 2 ≤ 100000; decide)
  have t2 : EvD K _ (start ["self", "other"] [.ref a, .ref b]) H (.tup [eL (zL ns), .tup (hR B rs)]) := evd_tup (ead_cons (.of f3 fun H2 e => ts2.ex e) (ead_cons (.of f4 fun H2 e => tr2.ex e) ead_nil)) (by show 2 ≤ 100000; decide)
  have hz : (NestedKey.tup [eL (zL ns), .tup (hR B rs)]).depth ≤ 64 := by
    have h1 := depth_eL (zL ns)
    have h2 := depth_eRs (rs.map fun r => rowE B r)
    rw [List.map_map] at h2
    show max (eL (zL ns)).depth (max (NestedKey.tup (hR B rs)).depth 0) + 1 ≤ 64
    have h3 : (NestedKey.tup (hR B rs)).depth ≤ 4 := h2
    omega
  refine sp_ret (P := IsV (.bl true)) (evp_v ?_) fun v H2 e2 p => k v H2 e2 p
  refine ev_andV (a := true) (b := true) isi fun _ => Ev.cast (ev_eqT (neg := false) t1 t2 hz hz) ?_
  simp
end
end FM
/-! habit_of. -/
namespace FM
open PySem PySem.Spec PyProof.Rows L2 Evl
abbrev rowsOf (ns : List Nat) (B : Int) (kvs : Bks) : List Row := (contents ns).map fun c => rowOf ns.length B kvs c
section
variable {P : Program} {w : World} {K : PySem.W.Frag} {σ : L2.St} {H H' : Hp} {t : TA}
theorem evp_makeH {C0 : Addr → Prop} {Ok : List Nat → Int → List Row → Prop} {C : Addr} {ns : List Nat} {B : Int} {rs : List Row} (h : EaP t σ H (fun vs H => ∃ s r, vs = [s, r] ∧ Tv K H s (eL (zL ns)) ∧ Tv K H r (.tup (hR B rs)))) (hc : C0 C) (hsz : ns ∈ allSizes) (hl : rs.length = (contents ns).length) (hok : Ok ns B rs) :
    EvP (tMake C (spHab P w K C0 Ok) [] EN t) σ H (fun v H2 => ∃ p, v = .ref p ∧ H p = none ∧ HabN P w K H H2 p C ns B rs) := fun H1 a Q q =>
  h H1 a _ fun vs H2 e2 ⟨s, r, ev, hs, hr⟩ x dx hx hdx hne => by
    subst ev
    have n0 : (upd H2 dx (.own x)) x = none := by rw [upd_ne (Ne.symm hne)]; exact hx
    have e3 : Ex H2 (upd (upd H2 dx (.own x)) x (.ins C dx [])) := (Ex.new hdx).trans (Ex.new n0)
    refine ⟨x, C, dx, s, r, ns, B, rs, rfl, upd_same, hc, hs.ex e3, hr.ex e3, hsz, hl, hok, fun H' eb hb => ⟨rfl, ?_⟩⟩
    have e4 : Ex H2 H' := ExB.ex hx ((ExB.of e3).trans eb)
    exact q _ H' (e2.trans e4) ⟨x, rfl, fresh_back a (fresh_back e2 hx), hb.back ((a.trans e2).trans e3)⟩
/-- the dict of the dicts shown -/
def ShD (P : Program) (w : World) (K : PySem.W.Frag) (H : Hp) (a : Addr) (ns : List Nat) (B : Int) (kvs : Bks) : Prop := ∃ kv, Dr P w K H a kv ∧ kv.map (·.1) = (contents ns).map eL ∧
  Paired (fun c v => ∃ b, v = .ref b ∧ DD P w K H b (rK (shown ns.length B kvs c)) (rD B (shown ns.length B kvs c))) (contents ns) (kv.map (·.2))
theorem ShD.ex {a : Addr} {ns : List Nat} {B : Int} {kvs : Bks} (h : ShD P w K H a ns B kvs) (e : Ex H H') : ShD P w K H' a ns B kvs :=
  let ⟨kv, h1, h2, h3⟩ := h
  ⟨kv, h1.ex e, h2, paired_imp (fun c v ⟨b, h4, h5⟩ => ⟨b, h4, h5.ex e⟩) h3⟩
theorem paired_at {α β : Type} {R : α → β → Prop} : ∀ {l : List α} {m : List β} {i : Nat} {a : α}, Paired R l m → l[i]? = some a → ∃ b, m[i]? = some b ∧ R a b
  | _, _, i, a, .nil, h => by simp at h
  | _, _, 0, a, .cons h1 t, h => by
    simp at h
    subst h
    exact ⟨_, rfl, h1⟩
  | _, _, i + 1, a, .cons h1 t, h => by
    obtain ⟨b, h2, h3⟩ := paired_at (i := i) t (by simpa using h)
    exact ⟨b, by simpa using h2, h3⟩
theorem Gd.shown_len {ns : List Nat} {B : Int} {kvs : Bks} {c : List Int} (g : Gd ns B kvs) : (shown ns.length B kvs c).length ≤ 901 := by
  unfold shown rowM
  rw [List.length_append, List.length_map]
  have := List.length_filter_le (inC c) kvs
  have := g.len
  show _ + 1 ≤ 901
  omega
end
section
variable {P : Program} {w : World} {K : PySem.W.Frag} {mg : Str → Option Value} {base : Heap} {aN aO : Addr} {tC tM : Tok} {CH CR fK fI fR fE : Addr}
theorem sc_habit_from : FnScope ["sizes", "shown", "content"] ["sizes", "shown"] (defScope (top 40)) := ⟨rfl, rfl, rfl, by decide +kernel, rfl, by decide +kernel, by decide +kernel⟩
def fHabitFrom (P : Program) (w : World) (K : PySem.W.Frag) (CR : Addr) : List V → Hp → VP → Prop := fun vs H R => ∃ (s : V) (a : Addr) (ns : List Nat) (B : Int) (kvs : Bks), vs = [s, .ref a] ∧ Tv K H s (eL (zL ns)) ∧ ShD P w K H a ns B kvs ∧ Gd ns B kvs ∧
  R = fun v H2 => ∃ p, v = .ref p ∧ H p = none ∧ HabN P w K H H2 p CR ns B (rowsOf ns B kvs)
theorem fn_habit_from (D : Df K mg "habit_from" "habit_from" (top 40) ["sizes", "shown"]) (T : Txt K mg aN aO tC tM) (C : TxC K mg CH CR fK fI fR fE) (G_RawHabit_init : Mp P w K mg base fR 3 ["self", "sizes", "rows"] (spHab P w K (fun c => c = CR) AnyOk))
    (G_row_from : Fn P w K mg base "row_from" 1 ["shares"] (spG (fRowFrom P w K))) (G_raw_contents : Fn P w K mg base "raw_contents" 1 ["sizes"] (spD K (fContents K))) : Fn P w K mg base "habit_from" 5 ["sizes", "shown"] (spG (fHabitFrom P w K CR)) := by
  refine D.fn fun f fd F => ?_
  refine F.ok sc_habit_from (fun vs H Q E h => by obtain ⟨R, ⟨s, a, ns, B, kvs, rfl, _⟩, _⟩ := h; rfl) (fun cdv A outer s H vs Q E hr h => ?_)
  obtain ⟨R, ⟨v, a, ns, B, kvs, rfl, d1, hS, g, rfl⟩, k⟩ := h
  have hu64 := hr.units
  have hu9 : (A.deeper (envOfC "habit_from" (defScope (top 40)) s.heap.objs.size f cdv)).units + 9 < cLine := by omega
  refine ⟨_, (pss_one (ps_ret (pe_makeF C.MkRawHabit G_RawHabit_init (hr.mono (by decide)) C.gRawHabit (pa_cons (pv 0) (pa_cons (pe_callTy (r := rTupOf K) call_tuple_of (by rfl) T.tuple boot_tuple (pa_cons (pe_lc (own := [(("content" : Str), 2)]) (g := gName 2) (tt := tYes) rfl sc_habit_from.nd (pi_list (pe_callF G_raw_contents (hr.mono (by decide)) (pa_cons (pv 0) pa_nil))) (blkOk_by (own := [(("content" : Str), 2)]) (N := ["sizes", "shown", "content"]) (sc := defScope (top 40)) (by decide +kernel)) (fun _ _ _ _ _ => (pg_name (i := 2) sc_habit_from.nd rfl (.inl rfl))) (fun _ _ _ _ _ => pts_nil) (fun _ _ _ _ _ => (pe_callF G_row_from (hr.mono (by decide)) (pa_cons (pe_ndGetK (P := P) (w := w) (K := K) rfl rfl rfl hu9 (pv 1) (pv 2) (fun _ _ => rfl)) pa_nil)))) pa_nil)) pa_nil))))), ?_⟩
  have hf := contents_facts ns g.sz
  have v0 : EvD K (tVar 0) (start ["sizes", "shown", "content"] [v, .ref a]) H (eL (zL ns)) := evd_var rfl d1
  have hC := evp_callD (E := EN) (ead_cons v0 ead_nil) (f := fContents K) ⟨ns, rfl, g.sz, rfl⟩
  have hL := evp_lcD (K := K) (σ := start ["sizes", "shown", "content"] [v, .ref a]) (H := H) (te := tCall (spG (fRowFrom P w K)) [] EN (tCons (tOp (rNdGet P w K) (tVar 1) (tVar 2)) tNil)) (g := gName 2) (tt := tYes) (vs := [2]) (Y := fun i v H => ∃ d, ((contents ns).map eL)[i]? = some d ∧ Tv K H v d) (contents ns) (fun _ => true) (fun c => eR (rowE B (rowOf ns.length B kvs c)))
    (by have := evi_listD hC; rw [List.length_map] at this; exact this) (by omega) (fun i c x H1 hc e1 ⟨d, hd, tv⟩ => by
      rw [List.getElem?_map, hc] at hd
      cases hd
      have hcm := List.mem_of_getElem? hc
      refine gvg_name ⟨rfl, et_yes, fun _ => ?_⟩
      have hg : EvP (tOp (rNdGet P w K) (tVar 1) (tVar 2)) ((wipe (start ["sizes", "shown", "content"] [v, .ref a]) [2]).set 2 (some x)) H1 (fun v H => ∃ b, v = .ref b ∧ DD P w K H b (rK (shown ns.length B kvs c)) (rD B (shown ns.length B kvs c))) :=
        evp_op (P := fun v H => v = .ref a ∧ ShD P w K H a ns B kvs) (R := IsD K (eL c)) (evp_var rfl fun H2 e2 => ⟨rfl, hS.ex (e1.trans e2)⟩) (fun v H H' e ⟨h1, h2⟩ => ⟨h1, h2.ex e⟩) (evd_var rfl tv) fun x' y H2 _ ⟨ex, kv, h1, h2, h3⟩ py Q q => by
          obtain ⟨u, hu, b, eb, hb⟩ := paired_at h3 hc
          have hk : kv[i]? = some (eL c, u) := by
            have k1 : (kv.map (·.1))[i]? = some (eL c) := by rw [h2, List.getElem?_map, hc]; rfl
            rw [List.getElem?_map] at k1 hu
            cases hkv : kv[i]? with
            | none => rw [hkv] at k1; cases k1
            | some z =>
              rw [hkv] at k1 hu
              have z1 : z.1 = eL c := Option.some.inj k1
              have z2 : z.2 = u := Option.some.inj hu
              rw [← z1, ← z2]
          refine ⟨a, kv, _, u, ex, h1, py, by rw [depth_eL]; decide, valV_nth (by rw [h2]; exact eL_nd hf.1) hk, q u H2 (Ex.refl H2) ⟨b, eb, hb⟩⟩
      exact evp_call (F := fRowFrom P w K) (P := IsD K (eR (rowE B (rowOf ns.length B kvs c)))) (eap_cons hg (fun v H H' e ⟨b, h1, h2⟩ => ⟨b, h1, h2.ex e⟩) eap_nil) fun vs H2 e2 ⟨u, ws, evs, ⟨b, eb, hb⟩, ew⟩ => ⟨_, ⟨b, shown ns.length B kvs c, rowOf ns.length B kvs c, B, by rw [evs, ew, eb], hb, g.shown_nd, g.bot.1, by
        have := g.shown_len (c := c)
        omega, g.row_asc, g.mem_row, rfl⟩, fun _ _ _ h => h⟩)
  rw [List.filter_eq_self.mpr (fun _ _ => rfl)] at hL
  have eE : ((contents ns).map fun c => eR (rowE B (rowOf ns.length B kvs c))) = hR B (rowsOf ns B kvs) := by
    show _ = ((contents ns).map fun c => rowOf ns.length B kvs c).map fun r => eR (rowE B r)
    rw [List.map_map]
    rfl
  rw [eE] at hL
  have hT := evd_tupOf hL
  have hM := evp_makeH (P := P) (w := w) (K := K) (C0 := fun c => c = CR) (Ok := AnyOk) (C := CR) (ns := ns) (B := B) (rs := rowsOf ns B kvs) ((eap_cons v0 sty_D (eap_cons hT sty_D eap_nil)).imp fun vs H2 _ ⟨x, ws, e1, h1, y, ws', e2, h2, e3⟩ => ⟨x, y, by rw [e1, e2, e3], h1, h2⟩) rfl g.sz (by rw [List.length_map]) trivial
  exact sp_ret hM fun v H1 e p => k v H1 e p
theorem sc_raw_habit_of : FnScope ["sizes", "shares", "content"] ["sizes", "shares"] (defScope (top 52)) := ⟨rfl, rfl, rfl, by decide +kernel, rfl, by decide +kernel, by decide +kernel⟩
def fHabitOf (P : Program) (w : World) (K : PySem.W.Frag) (CR : Addr) : List V → Hp → VP → Prop := fun vs H R => ∃ (s : V) (a : Addr) (ns : List Nat) (B : Int) (kvs : Bks), vs = [s, .ref a] ∧ Tv K H s (eL (zL ns)) ∧ DW P w K H a (bK kvs) (bD B kvs) ∧ Gd ns B kvs ∧
  R = fun v H2 => ∃ p, v = .ref p ∧ H p = none ∧ HabN P w K H H2 p CR ns B (rowsOf ns B kvs)
theorem fn_raw_habit_of (D : Df K mg "raw_habit_of" "raw_habit_of" (top 52) ["sizes", "shares"]) (T : Txt K mg aN aO tC tM) (G_habit_from : Fn P w K mg base "habit_from" 5 ["sizes", "shown"] (spG (fHabitFrom P w K CR)))
    (G_shown_by_shares : Fn P w K mg base "shown_by_shares" 5 ["sizes", "shares", "content"] (spG (fShown P w K))) (G_raw_contents : Fn P w K mg base "raw_contents" 1 ["sizes"] (spD K (fContents K))) : Fn P w K mg base "raw_habit_of" 6 ["sizes", "shares"] (spG (fHabitOf P w K CR)) := by
  refine D.fn fun f fd F => ?_
  refine F.ok sc_raw_habit_of (fun vs H Q E h => by obtain ⟨R, ⟨s, a, ns, B, kvs, rfl, _⟩, _⟩ := h; rfl) (fun cdv A outer s H vs Q E hr h => ?_)
  obtain ⟨R, ⟨v, a, ns, B, kvs, rfl, d1, hD, g, rfl⟩, k⟩ := h
  have hu64 := hr.units
  have hu9 : (A.deeper (envOfC "raw_habit_of" (defScope (top 52)) s.heap.objs.size f cdv)).units + 9 < cLine := by omega
  refine ⟨_, (pss_one (ps_ret (pe_callF G_habit_from (hr.mono (by decide)) (pa_cons (pv 0) (pa_cons (pe_ndc (own := [(("content" : Str), 2)]) (g := gName 2) (tt := tYes) hu9 rfl sc_raw_habit_of.nd (pi_list (pe_callF G_raw_contents (hr.mono (by decide)) (pa_cons (pv 0) pa_nil))) (blkOk_by (own := [(("content" : Str), 2)]) (N := ["sizes", "shares", "content"]) (sc := defScope (top 52)) (by decide +kernel)) (fun _ _ _ _ _ => (pg_name (i := 2) sc_raw_habit_of.nd rfl (.inl rfl))) (fun _ _ _ _ _ => pts_nil) (fun _ _ _ _ _ => (pv 2)) (fun _ _ _ _ _ => (pe_callF G_shown_by_shares (hr.mono (by decide)) (pa_cons (pv 0) (pa_cons (pv 1) (pa_cons (pv 2) pa_nil)))))) pa_nil))))), ?_⟩
  have hf := contents_facts ns g.sz
  have v0 : EvD K (tVar 0) (start ["sizes", "shares", "content"] [v, .ref a]) H (eL (zL ns)) := evd_var rfl d1
  have hC := evp_callD (E := EN) (ead_cons v0 ead_nil) (f := fContents K) ⟨ns, rfl, g.sz, rfl⟩
  have hN := evp_ndc (P := P) (w := w) (K := K) (σ := start ["sizes", "shares", "content"] [v, .ref a]) (H := H) (tk := tVar 2) (tv := tCall (spG (fShown P w K)) [] EN (tCons (tVar 0) (tCons (tVar 1) (tCons (tVar 2) tNil)))) (g := gName 2) (tt := tYes) (vs := [2]) (Y := fun i v H => ∃ d, ((contents ns).map eL)[i]? = some d ∧ Tv K H v d) (contents ns) (fun _ => true) eL
    (fun D c v H => ∃ b, v = .ref b ∧ b ≠ D ∧ DD P w K H b (rK (shown ns.length B kvs c)) (rD B (shown ns.length B kvs c))) (fun D c v H H' e kp ⟨b, h1, h2, h3⟩ => ⟨b, h1, h2, h3.exB h2 e kp⟩)
    (by have := evi_listD hC; rw [List.length_map] at this; exact this) (by omega) (by rw [List.filter_eq_self.mpr (fun _ _ => rfl)]; exact eL_nd hf.1) (fun c => ⟨_, rfl⟩) (fun c => by rw [depth_eL]; decide) (fun i c x H1 hc e1 ⟨d, hd, tv⟩ => by
      rw [List.getElem?_map, hc] at hd
      cases hd
      have hcm := List.mem_of_getElem? hc
      refine gvg_name ⟨rfl, et_yes, fun _ => ⟨evd_var rfl tv, fun D' ⟨o, hD'⟩ => ?_⟩⟩
      refine evp_call (F := fShown P w K) (eap_cons (P := IsD K (eL (zL ns))) (evd_var rfl (d1.ex e1)) sty_D (eap_cons (P := IsV (V.ref a)) (evp_v (ev_var rfl)) sty_V (eap_cons (P := IsD K (eL c)) (evd_var rfl tv) sty_D eap_nil))) fun vs H2 e2 ⟨x1, ws1, q1, h1, x2, ws2, q2, h2, x3, ws3, q3, h3, q4⟩ => ?_
      cases h2
      refine ⟨_, ⟨x1, a, x3, ns, B, kvs, c, by rw [q1, q2, q3, q4], h1, hD.ex (e1.trans e2), g, h3, hcm, rfl⟩, fun u H3 e3 ⟨b, eb, fb, hb⟩ => ⟨b, eb, fun z => ?_, hb.r⟩⟩
      subst z
      rw [e2 _ _ hD'] at fb
      cases fb)
  rw [List.filter_eq_self.mpr (fun _ _ => rfl)] at hN
  refine sp_ret (P := fun v H2 => ∃ p, v = .ref p ∧ H p = none ∧ HabN P w K H H2 p CR ns B (rowsOf ns B kvs)) ?_ fun v H1 e p => k v H1 e p
  refine evp_call (F := fHabitFrom P w K CR) (eap_cons v0 sty_D (eap_cons (P := fun v H => ∃ b, v = .ref b ∧ ShD P w K H b ns B kvs) (hN.imp fun v H2 _ ⟨D', l, h1, h2, h3, h4, h5, h6⟩ => ⟨D', h1, prs l, ⟨l, .inl h3, h4, rfl⟩, h5, paired_imp (fun c v ⟨b, g1, _, g2⟩ => ⟨b, g1, g2⟩) h6⟩) (fun v H H' e ⟨b, h1, h2⟩ => ⟨b, h1, h2.ex e⟩) eap_nil)) fun vs H2 e2 ⟨x1, ws1, q1, h1, x2, ws2, q2, ⟨b, eb, h2⟩, q3⟩ => ?_
  exact ⟨_, ⟨x1, b, ns, B, kvs, by rw [q1, q2, q3, eb], h1, h2, g, rfl⟩, fun u H3 e3 ⟨p, ep, fp, hp⟩ => ⟨p, ep, fresh_back e2 fp, hp.back e2⟩⟩
theorem sc_habit_of : FnScope ["sizes", "shares"] ["sizes", "shares"] (defScope (top 53)) := ⟨rfl, rfl, rfl, by decide +kernel, rfl, by decide +kernel, by decide +kernel⟩
theorem fn_habit_of (D : Df K mg "habit_of" "habit_of" (top 53) ["sizes", "shares"]) (T : Txt K mg aN aO tC tM) (G_check_sizes : Fn P w K mg base "check_sizes" 4 ["thing"] (spD K fCheck)) (G_are_shares : Fn P w K mg base "are_shares" 5 ["sizes", "thing"] (spG (fShares P w K)))
    (G_raw_habit_of : Fn P w K mg base "raw_habit_of" 6 ["sizes", "shares"] (spG (fHabitOf P w K CR))) : Fn P w K mg base "habit_of" 7 ["sizes", "shares"] (spG (fHabitOf P w K CR)) := by
  refine D.fn fun f fd F => ?_
  refine F.ok sc_habit_of (fun vs H Q E h => by obtain ⟨R, ⟨s, a, ns, B, kvs, rfl, _⟩, _⟩ := h; rfl) (fun cdv A outer s H vs Q E hr h => ?_)
  obtain ⟨R, ⟨v, a, ns, B, kvs, rfl, d1, hD, g, rfl⟩, k⟩ := h
  refine ⟨_, (pss_cons (ps_expr (pe_callF G_check_sizes (hr.mono (by decide)) (pa_cons (pv 0) pa_nil)))
      (pss_cons (ps_if (pt_not (pt_val (pe_callF G_are_shares (hr.mono (by decide)) (pa_cons (pv 0) (pa_cons (pv 1) pa_nil))))) (pss_one ps_never) pss_nil)
      (pss_one (ps_ret (pe_callF G_raw_habit_of (hr.mono (by decide)) (pa_cons (pv 0) (pa_cons (pv 1) pa_nil))))))), ?_⟩
  refine qp_drop (P := IsV .non) (evp_callD (ead_cons (evd_var rfl d1) ead_nil) ⟨ns, rfl, g.sz, rfl⟩) fun _ H1 e1 _ => ?_
  have args : ∀ {H'}, Ex H H' → EaP (tCons (tVar 0) (tCons (tVar 1) tNil)) (start ["sizes", "shares"] [v, .ref a]) H' (fun vs H2 => vs = [v, .ref a] ∧ Tv K H2 v (eL (zL ns)) ∧ DW P w K H2 a (bK kvs) (bD B kvs)) := fun e =>
    (eap_cons (evp_v (ev_var (v := v) rfl)) sty_V (eap_cons (evp_v (ev_var (v := V.ref a) rfl)) sty_V eap_nil)).imp fun vs H2 e2 ⟨x, ws, q1, h1, y, ws', q2, h2, q3⟩ => by
      cases h1
      cases h2
      exact ⟨by rw [q1, q2, q3], d1.ex (e.trans e2), hD.ex (e.trans e2)⟩
  refine q_when (b := false) (et_nt (evp_call (P := IsV (.bl true)) (F := fShares P w K) (args e1) fun vs H2 e2 ⟨q1, h1, h2⟩ => ⟨_, ⟨v, a, ns, B, kvs, q1, h1, h2, g, rfl⟩, fun _ _ _ h => h⟩).ev) (fun h => by cases h) fun _ H2 e2 => ?_
  have e12 := e1.trans e2
  refine sp_ret (P := fun v H3 => ∃ p, v = .ref p ∧ H2 p = none ∧ HabN P w K H2 H3 p CR ns B (rowsOf ns B kvs)) ?_ fun v H3 e3 ⟨p, ep, fp, hp⟩ => k v H3 (e12.trans e3) ⟨p, ep, fresh_back e12 fp, hp.back e12⟩
  exact evp_call (F := fHabitOf P w K CR) (args e12) fun vs H3 e3 ⟨q1, h1, h2⟩ => ⟨_, ⟨v, a, ns, B, kvs, q1, h1, h2, g, rfl⟩, fun u H4 e4 ⟨p, ep, fp, hp⟩ => ⟨p, ep, fresh_back e3 fp, hp.back e3⟩⟩
end
end FM
/-! raw_share, raw_patterns. -/
namespace FM
open PySem PySem.Spec PyProof.Rows L2 Evl
theorem pe_never {X : Cx} {e : Expr} : PE X e (fun _ _ _ => False) := ⟨fun _ _ _ _ _ _ h => h.elim⟩
theorem pps_one {X : Cx} {pos : Pos} {k v : Expr} {tk tv : TE} (hk : PE X k tk) (hv : PE X v tv) : PPs X pos [some k] [v] [(tk, tv)] := pps_cons hk hv pps_nil
/-- tuples and lists stay -/
def KpL (H H' : Hp) : Prop := Kp H H' ∧ ∀ l xs, H l = some (.lst xs) → H' l = some (.lst xs)
theorem KpL.refl (H : Hp) : KpL H H := ⟨Kp.refl H, fun _ _ h => h⟩
theorem KpL.trans {H H1 H2 : Hp} (a : KpL H H1) (b : KpL H1 H2) : KpL H H2 := ⟨a.1.trans b.1, fun l xs h => b.2 l xs (a.2 l xs h)⟩
theorem KpL.ex {H H' : Hp} (e : Ex H H') : KpL H H' := ⟨.ex e, fun l xs h => e _ _ h⟩
theorem KpL.of {H H' : Hp} {D : Addr} {φ : Heap → Prop} (h : H D = some (.ext φ)) (e : ExB D H H') (k : Kp H H') : KpL H H' := ⟨k, fun l xs hl => e l _ (fun z => by subst z; rw [h] at hl; cases hl) hl⟩
section
variable {P : Program} {w : World} {K : PySem.W.Frag} {σ : L2.St} {H : Hp} {tl te : TE} {g : TG} {tu : TS} {D : Ends} {tz : TS}
/-- for over a tuple of data, tuples staying -/
theorem sp_forTK {ds : List NestedKey} (h : EvD K tl σ H (.tup ds)) (Pv : Hp → Nat → L2.St → Hp → Prop) (h0 : ∀ H1, Ex H H1 → Pv H1 0 σ H1) (hk : ∀ H1 i σ' H', Pv H1 i σ' H' → Kp H1 H')
    (hs : ∀ H1 i d x σ' H', Ex H H1 → ds[i]? = some d → Pv H1 i σ' H' → Tv K H' x d → g x σ' H' fun σ2 H2 => tu { D with nx := Pv H1 (i + 1), ct := Pv H1 (i + 1), bk := D.nx } σ2 H2) (hd : ∀ H1 σ' H', Ex H H1 → Pv H1 ds.length σ' H' → D.nx σ' H') : tFor (iTup K tl) g tu D σ H :=
  h H (Ex.refl H) _ fun v H1 e p => by
    obtain ⟨a, xs, rfl, hsq, hta⟩ := Tv.tupI p
    refine ⟨a, rfl, ⟨xs, hsq⟩, for_tup (Pv H1) (h0 H1 e) (fun i σ' H' _ q => (hk H1 i σ' H' q).sqt hsq) (fun i x σ' H' hx q => ?_) fun σ' H' q => hd H1 σ' H' e (by rw [← hta.length]; exact q)⟩
    obtain ⟨d, hd', tv⟩ := hta.get hx
    exact hs H1 i d x σ' H' e hd' q (tv.kp (hk H1 i σ' H' q))
theorem qp_forTK {ds : List NestedKey} (h : EvD K tl σ H (.tup ds)) (Pv : Hp → Nat → L2.St → Hp → Prop) (h0 : ∀ H1, Ex H H1 → Pv H1 0 σ H1) (hk : ∀ H1 i σ' H', Pv H1 i σ' H' → Kp H1 H')
    (hs : ∀ H1 i d x σ' H', Ex H H1 → ds[i]? = some d → Pv H1 i σ' H' → Tv K H' x d → g x σ' H' fun σ2 H2 => tu { D with nx := Pv H1 (i + 1), ct := Pv H1 (i + 1), bk := tz D } σ2 H2) (hd : ∀ H1 σ' H', Ex H H1 → Pv H1 ds.length σ' H' → tz D σ' H') : tSeq (tFor (iTup K tl) g tu) tz D σ H := sp_forTK (D := { D with nx := tz D }) h Pv h0 hk hs hd
/-- for over a list of data, tuples and lists staying -/
theorem sp_forLK {ds : List NestedKey} (h : EvP tl σ H (IsLD K ds)) (Pv : Hp → Nat → L2.St → Hp → Prop) (h0 : ∀ H1, Ex H H1 → Pv H1 0 σ H1) (hk : ∀ H1 i σ' H', Pv H1 i σ' H' → KpL H1 H')
    (hs : ∀ H1 i d x σ' H', Ex H H1 → ds[i]? = some d → Pv H1 i σ' H' → Tv K H' x d → g x σ' H' fun σ2 H2 => tu { D with nx := Pv H1 (i + 1), ct := Pv H1 (i + 1), bk := D.nx } σ2 H2) (hd : ∀ H1 σ' H', Ex H H1 → Pv H1 ds.length σ' H' → D.nx σ' H') : tFor (iList K tl) g tu D σ H :=
  h H (Ex.refl H) _ fun v H1 e ⟨a, ys, ev, hy, ty⟩ => by
    refine ⟨a, ev, ⟨ys, sq_of hy⟩, for_list (Pv H1) (h0 H1 e) (fun i σ' H' _ q => sq_of ((hk H1 i σ' H' q).2 a ys hy)) (fun i x σ' H' hx q => ?_) fun σ' H' q => hd H1 σ' H' e (by rw [← ty.length]; exact q)⟩
    obtain ⟨d, hd', tv⟩ := ty.get hx
    exact hs H1 i d x σ' H' e hd' q (tv.kp (hk H1 i σ' H' q).1)
theorem qp_forLK {ds : List NestedKey} (h : EvP tl σ H (IsLD K ds)) (Pv : Hp → Nat → L2.St → Hp → Prop) (h0 : ∀ H1, Ex H H1 → Pv H1 0 σ H1) (hk : ∀ H1 i σ' H', Pv H1 i σ' H' → KpL H1 H')
    (hs : ∀ H1 i d x σ' H', Ex H H1 → ds[i]? = some d → Pv H1 i σ' H' → Tv K H' x d → g x σ' H' fun σ2 H2 => tu { D with nx := Pv H1 (i + 1), ct := Pv H1 (i + 1), bk := tz D } σ2 H2) (hd : ∀ H1 σ' H', Ex H H1 → Pv H1 ds.length σ' H' → tz D σ' H') : tSeq (tFor (iList K tl) g tu) tz D σ H := sp_forLK (D := { D with nx := tz D }) h Pv h0 hk hs hd
/-- habit.kept[content] -/
theorem evd_kept {a C : Addr} {ns : List Nat} {B : Int} {rs : List Row} {cc : List Int} {r : Row} {i : Nat} {ta tb : TE} (hh : Hab P w K H a C ns B rs) (c : Cls K C) (n : NoAttr K C "kept") (hsz : ns ∈ allSizes) (ha : Ev ta σ H (.ref a)) (hb : EvD K tb σ H (eL cc)) (hi : (contents ns)[i]? = some cc) (hr : rs[i]? = some r) : EvD K (tOp (rNdGet P w K) (tFld K ta "kept") tb) σ H (eR (rowE B r)) := by
  obtain ⟨dx, s, r', d, h1, h2, h3, h4⟩ := hh
  refine evd_ndGet (ks := (contents ns).map eL) (ds := hR B rs) (i := i) (.of (ev_fld ha h1 c n (hF_k ..)) fun H1 e1 => ⟨d, rfl, h4.ex e1⟩) hb (eL_nd (contents_facts ns hsz).1) (by rw [List.getElem?_map, hi]; rfl) (by show (rs.map _)[i]? = _; rw [List.getElem?_map, hr]; rfl) (by rw [depth_eL]; decide)
theorem evd_sizes {a C : Addr} {ns : List Nat} {B : Int} {rs : List Row} {ta : TE} (hh : Hab P w K H a C ns B rs) (c : Cls K C) (n : NoAttr K C "sizes") (ha : Ev ta σ H (.ref a)) : EvD K (tFld K ta "sizes") σ H (eL (zL ns)) := by
  obtain ⟨dx, s, r', d, h1, h2, h3, h4⟩ := hh
  exact .of (ev_fld ha h1 c n (hF_s ..)) fun H1 e1 => h2.ex e1
theorem evd_rows {a C : Addr} {ns : List Nat} {B : Int} {rs : List Row} {ta : TE} (hh : Hab P w K H a C ns B rs) (c : Cls K C) (n : NoAttr K C "rows") (ha : Ev ta σ H (.ref a)) : EvD K (tFld K ta "rows") σ H (.tup (hR B rs)) := by
  obtain ⟨dx, s, r', d, h1, h2, h3, h4⟩ := hh
  exact .of (ev_fld ha h1 c n (hF_r ..)) fun H1 e1 => h3.ex e1
end
theorem nodup_len {α : Type} [DecidableEq α] : ∀ {ps l : List α}, ps.Nodup → (∀ p ∈ ps, p ∈ l) → ps.length ≤ l.length
  | [], _, _, _ => Nat.zero_le _
  | p :: ps, l, hn, h => by
    have hn' := List.nodup_cons.mp hn
    have hp := h p List.mem_cons_self
    have := nodup_len (ps := ps) (l := l.erase p) hn'.2 fun q hq => (List.mem_erase_of_ne (show q ≠ p from fun e => hn'.1 (by rw [← e]; exact hq))).mpr (h q (List.mem_cons_of_mem _ hq))
    rw [List.length_erase_of_mem hp] at this
    have hl : 0 < l.length := List.length_pos_of_mem hp
    rw [List.length_cons]
    omega
theorem shareN_hit {r : Row} (hn : (r.map (·.1)).Nodup) {p : List Int} {k : Int} (h : (p, k) ∈ r) : shareN r p = k := by
  unfold shareN
  cases hf : r.find? fun x => decide (x.1 = p) with
  | none =>
    have := List.find?_eq_none.mp hf _ h
    simp at this
  | some y =>
    have h4 := find_fst hf
    rw [key_one hn h4.1 h h4.2]
theorem shareN_miss {r : Row} {p : List Int} (h : ∀ x ∈ r, x.1 ≠ p) : shareN r p = 0 := by
  unfold shareN
  cases hf : r.find? fun x => decide (x.1 = p) with
  | none => rfl
  | some y => exact absurd (find_fst hf).2 (h y (find_fst hf).1)
theorem eL_dec (p q : List Int) : decide (eL p = eL q) = decide (p = q) := by
  rw [decide_eq_decide]
  exact ⟨eL_inj, fun h => by rw [h]⟩
section
variable {P : Program} {w : World} {K : PySem.W.Frag} {mg : Str → Option Value} {base : Heap} {aN aO : Addr} {tC tM : Tok} {CH CR fK fI fR fE : Addr}
theorem sc_raw_share : FnScope ["habit", "pattern", "content", "other", "found"] ["habit", "pattern", "content"] (defScope (top 41)) := ⟨rfl, rfl, rfl, by decide +kernel, rfl, by decide +kernel, by decide +kernel⟩
def fRawShare (P : Program) (w : World) (K : PySem.W.Frag) (CH CR : Addr) : List V → Hp → VP → Prop := fun vs H R => ∃ (a C : Addr) (p c : V) (ns : List Nat) (B : Int) (kvs : Bks) (pp cc : List Int), vs = [.ref a, p, c] ∧ (C = CH ∨ C = CR) ∧ Hab P w K H a C ns B (rowsOf ns B kvs) ∧ Gd ns B kvs ∧ Tv K H p (eL pp) ∧ Tv K H c (eL cc) ∧ cc ∈ contents ns ∧
  R = IsD K (eF (lw (shareN (rowOf ns.length B kvs cc) pp) B))
theorem fn_raw_share (D : Df K mg "raw_share" "raw_share" (top 41) ["habit", "pattern", "content"]) (T : Txt K mg aN aO tC tM) (C : TxC K mg CH CR fK fI fR fE) : Fn P w K mg base "raw_share" 1 ["habit", "pattern", "content"] (spG (fRawShare P w K CH CR)) := by
  refine D.fn fun f fd F => ?_
  refine F.ok sc_raw_share (fun vs H Q E h => by obtain ⟨R, ⟨a, C1, p, c, ns, B, kvs, pp, cc, rfl, _⟩, _⟩ := h; rfl) (fun cdv A outer s H vs Q E hr h => ?_)
  obtain ⟨R, ⟨a, C1, p, c, ns, B, kvs, pp, cc, rfl, hC, hH, g, d2, d3, hcc, rfl⟩, k⟩ := h
  have hu64 := hr.units
  have hu9 : (A.deeper (envOfC "raw_share" (defScope (top 41)) s.heap.objs.size f cdv)).units + 9 < cLine := by omega
  refine ⟨_, (pss_cons (ps_for PassesOwn.never rfl (pi_tup (pe_ndGetK (P := P) (w := w) (K := K) rfl rfl rfl hu9 (pe_fld (pv 0) rfl) (pv 2) (fun _ _ => rfl))) (pg_tup (n := 2) rfl (pgs_cons (pg_name (i := 3) sc_raw_share.nd rfl (.inl rfl)) (pgs_cons (pg_name (i := 4) sc_raw_share.nd rfl (.inl rfl)) pgs_nil)))
        (pss_one (ps_if (pt_cmpR (r := rEqT K false) (op_eqT hu64) (pv 3) (pv 1) (nomark _)) (pss_one (ps_ret (pv 4))) pss_nil)))
      (pss_one (ps_ret (pe_glob (v := V.ref aN) (by rfl) T.gNOTHING rfl)))), ?_⟩
  obtain ⟨cl, n1, n2, n3⟩ := C.cls hC
  obtain ⟨i, hi, ei⟩ := List.getElem_of_mem hcc
  have hci : (contents ns)[i]? = some cc := by rw [List.getElem?_eq_getElem hi, ei]
  generalize hr0 : rowOf ns.length B kvs cc = r
  have hri : (rowsOf ns B kvs)[i]? = some r := by rw [List.getElem?_map, hci, ← hr0]; rfl
  have hkn : (r.map (·.1)).Nodup := hr0 ▸ g.row_keys
  rw [hr0] at k
  refine qp_forTK (evd_kept hH cl n3 g.sz (ev_var rfl) (evd_var rfl d3) hci hri) (fun H1 i σ' H' => ∃ x y, σ' = [some (.ref a), some p, some c, x, y] ∧ Ex H1 H' ∧ Ex H H' ∧ ∀ x ∈ r.take i, x.1 ≠ pp) (fun H1 e1 => ⟨none, none, rfl, Ex.refl H1, e1, fun x hx => by cases hx⟩) (fun H1 i σ' H' ⟨_, _, _, e, _⟩ => .ex e) ?_ ?_
  · rintro H1 j d x σ' H2 e1 hd ⟨y, z, rfl, e2, e3, hno⟩ tv
    obtain ⟨q, hq, rfl⟩ := rowE_get hd
    refine gvg_pair tv (fun u v hu hv => ?_) _ fun σ2 H6 e7 q => q
    refine s_when (et_test (ev_eqT (neg := false) (evd_var rfl hu) (evd_var rfl (d2.ex e3)) (by rw [depth_eL]; decide) (by rw [depth_eL]; decide))) (fun hb H3 e4 => ?_) fun hb H3 e4 => ?_
    · have hb' : q.1 = pp := by
        have hb1 : decide (eL q.1 = eL pp) = true := hb
        rw [eL_dec] at hb1
        exact of_decide_eq_true hb1
      have hk : shareN r pp = q.2 := shareN_hit hkn (by rw [← hb']; exact List.mem_of_getElem? hq)
      refine sp_ret (P := IsD K (eF (lw (shareN r pp) B))) (by rw [hk]; exact evd_var rfl (hv.ex e4)) fun v H4 e5 p => k v H4 ((e3.trans e4).trans e5) p
    · have hb' : q.1 ≠ pp := by
        have hb1 : decide (eL q.1 = eL pp) = false := hb
        rw [eL_dec] at hb1
        exact of_decide_eq_false hb1
      refine ⟨some u, some v, rfl, e2.trans e4, e3.trans e4, fun x hx => ?_⟩
      rw [List.take_add_one, hq] at hx
      rcases List.mem_append.mp hx with hx | hx
      · exact hno x hx
      · have : x = q := by simpa using hx
        rw [this]
        exact hb'
  · rintro H1 σ' H2 e1 ⟨y, z, rfl, e2, e3, hno⟩
    rw [rowE_len, List.take_length] at hno
    refine sp_ret (P := IsD K (eF (lw (shareN r pp) B))) (.of ev_c fun H3 _ => ?_) fun v H4 e5 p => k v H4 (e3.trans e5) p
    rw [shareN_miss hno, lw_zero g.bot.1]
    exact T.tN H3
theorem sc_raw_patterns : FnScope ["habit", "found", "row", "pattern", "part"] ["habit"] (defScope (top 42)) := ⟨rfl, rfl, rfl, by decide +kernel, rfl, by decide +kernel, by decide +kernel⟩
/-- a dict of the patterns ps, whatever it holds -/
def KW (P : Program) (w : World) (K : PySem.W.Frag) (H : Hp) (a : Addr) (ps : List (List Int)) : Prop := ∃ l, H a = some (NDO P w a l) ∧ Dk K H l ∧ (prs l).map (·.1) = ps.map eL ∧ ps.Nodup
def fRawPatterns (P : Program) (w : World) (K : PySem.W.Frag) (CH CR : Addr) : List V → Hp → VP → Prop := fun vs H R => ∃ (a C : Addr) (ns : List Nat) (B : Int) (kvs : Bks), vs = [.ref a] ∧ (C = CH ∨ C = CR) ∧ Hab P w K H a C ns B (rowsOf ns B kvs) ∧ Gd ns B kvs ∧
  R = fun v H2 => ∃ ps : List (List Int), Tv K H2 v (.tup (ps.map eL)) ∧ ∀ p ∈ ps, p ∈ pats ns.length
theorem Gd.row_pat {ns : List Nat} {B : Int} {kvs : Bks} {c : List Int} (x : List Int × Int) (hx : x ∈ rowOf ns.length B kvs c) : x.1 ∈ pats ns.length := by
  unfold rowOf at hx
  obtain ⟨p, hp, h⟩ := List.mem_filterMap.mp hx
  have h2 := List.find?_some h
  rw [Bool.and_eq_true] at h2
  rw [of_decide_eq_true h2.1]
  exact hp
theorem evp_sortK {σ : L2.St} {H : Hp} {te : TE} {pred : List (List Int) → Prop} (h : EvP te σ H (fun v H => ∃ a ps, v = .ref a ∧ KW P w K H a ps ∧ pred ps)) (hp : ∀ ps qs : List (List Int), qs.Perm ps → pred ps → pred qs) : EvP (tCB (rSrtN P w K) (tCons te tNil)) σ H (fun v H2 => ∃ qs : List (List Int), pred qs ∧ IsLD K (qs.map eL) v H2) := fun H1 a Q q =>
  h H1 a _ fun v H2 e2 ⟨b, ps, ev, ⟨l, h1, h2, h3, h4⟩, h5⟩ => ⟨b, prs l, by rw [ev], ⟨l, .inl h1, h2, rfl⟩, by rw [h3]; exact srt_eL ps, fun p ys es hpn ty g1 g2 => by
    rw [h3] at g1
    obtain ⟨qs, rfl, g1, g2⟩ := out_eL g1 g2 h4
    exact q _ _ (e2.trans (Ex.new hpn)) ⟨qs, hp ps qs g1 h5, p, ys, rfl, upd_same, ty.ex (Ex.new hpn)⟩⟩
theorem fn_raw_patterns (D : Df K mg "raw_patterns" "raw_patterns" (top 42) ["habit"]) (T : Txt K mg aN aO tC tM) (C : TxC K mg CH CR fK fI fR fE) (G_all_columns : Fn P w K mg base "all_columns" 1 ["columns"] (spD K (fAllC K))) : Fn P w K mg base "raw_patterns" 2 ["habit"] (spG (fRawPatterns P w K CH CR)) := by
  refine D.fn fun f fd F => ?_
  refine F.ok sc_raw_patterns (fun vs H Q E h => by obtain ⟨R, ⟨a, C1, ns, B, kvs, rfl, _⟩, _⟩ := h; rfl) (fun cdv A outer s H vs Q E hr h => ?_)
  obtain ⟨R, ⟨a, C1, ns, B, kvs, rfl, hC, hH, g, rfl⟩, k⟩ := h
  have hu64 := hr.units
  have hu9 : (A.deeper (envOfC "raw_patterns" (defScope (top 42)) s.heap.objs.size f cdv)).units + 9 < cLine := by omega
  have hu20 : (A.deeper (envOfC "raw_patterns" (defScope (top 42)) s.heap.objs.size f cdv)).units + 20 < cLine := by omega
  refine ⟨_, (pss_cons (ps_set (i := 1) sc_raw_patterns.nd rfl (.inl rfl) (pe_ndOne hu9 (pps_one (pe_callF G_all_columns (hr.mono (by decide)) (pa_cons (pe_callB (r := rLenS K) call_len_seq (by rfl) T.len boot_len (pa_cons (pe_fld (pv 0) rfl) pa_nil)) pa_nil)) pe_bl)))
      (pss_cons (ps_for PassesOwn.never rfl (pi_tup (pe_fld (pv 0) rfl)) (pg_name (i := 2) sc_raw_patterns.nd rfl (.inl rfl))
        (pss_one (ps_for PassesOwn.never rfl (pi_tup (pv 2)) (pg_tup (n := 2) rfl (pgs_cons (pg_name (i := 3) sc_raw_patterns.nd rfl (.inl rfl)) (pgs_cons (pg_name (i := 4) sc_raw_patterns.nd rfl (.inl rfl)) pgs_nil)))
          (pss_one (ps_ndPut hu9 (pv 1) (pv 3) pe_bl rfl)))))
      (pss_one (ps_ret (pe_callTy (r := rTupOf K) call_tuple_of (by rfl) T.tuple boot_tuple (pa_cons (pe_callB (r := rSrtN P w K) (cr_sortedNd rfl hu20) (by rfl) T.sorted boot_sorted (pa_cons (pv 1) pa_nil)) pa_nil)))))), ?_⟩
  obtain ⟨cl, n1, n2, n3⟩ := C.cls hC
  have hcol := g.col
  have hf := contents_facts ns g.sz
  have hzl : ((zL ns).map NestedKey.num).length = ns.length := map_len (zL_len ns)
  -- found = {whole: True}
  have h1 : EvP (tNdOne P w K (tCall (spD K (fAllC K)) [] EN (tCons (tCB (rLenS K) (tCons (tFld K (tVar 0) "sizes") tNil)) tNil)) (L2.tC (.bl true))) (start ["habit", "found", "row", "pattern", "part"] [.ref a]) H (fun v H2 => ∃ D0, v = .ref D0 ∧ H D0 = none ∧ KW P w K H2 D0 [allC ns.length]) := fun H0 eA Q q => by
    intro D0 hD0
    have e0 : Ex H0 (upd H0 D0 (NDO P w D0 [])) := Ex.new hD0
    refine (evp_callD (f := fAllC K) (E := EN) (ead_cons (evd_i (Ev.castI (ev_lenD (evd_sizes (hH.ex (eA.trans e0)) cl n1 (ev_var (σ := start ["habit", "found", "row", "pattern", "part"] [.ref a]) (i := 0) rfl))) (j := (ns.length : Int)) (by rw [hzl]))) ead_nil) ⟨ns.length, rfl, by omega, rfl⟩) _ (Ex.refl _) _ fun vk H1 e1 hk => ?_
    have hD1 : H1 D0 = some (NDO P w D0 []) := e1 _ _ upd_same
    obtain ⟨bk, ebk, _⟩ := Tv.intsI hk
    subst ebk
    refine ⟨hD1, _, bk, .bl true, rfl, hk, by rw [depth_eL]; decide, ?_⟩
    have k1 : Kp H1 (upd H1 D0 (NDO P w D0 [(eL (allC ns.length), bk, .bl true)])) := Kp.upd (nrd_ext hD1)
    refine q _ _ (Ex.mut (e0.trans e1) hD0) ⟨D0, rfl, fresh_back eA hD0, _, upd_same, fun x hx => ?_, rfl, by simp⟩
    have : x = (eL (allC ns.length), bk, .bl true) := by simpa using hx
    subst this
    exact ⟨hk.kp k1, by rw [depth_eL]; decide⟩
  refine qp_asg h1 fun v H2 eH2 ⟨D0, ev, hD0, hK2⟩ => ?_
  subst ev
  -- the rows
  refine qp_forTK (evd_rows (hH.ex eH2) cl n2 (ev_var (i := 0) rfl)) (fun H1 i σ' H' => ∃ x y z ps, σ' = [some (.ref a), some (.ref D0), x, y, z] ∧ Kp H1 H' ∧ Ex H H' ∧ KW P w K H' D0 ps ∧ ∀ p ∈ ps, p ∈ pats ns.length) (fun H1 e1 => ⟨none, none, none, [allC ns.length], rfl, Kp.refl _, eH2.trans e1, ?_, fun p hp => ?_⟩) (fun H1 i σ' H' ⟨_, _, _, _, _, e, _⟩ => e) ?_ ?_
  · obtain ⟨l, q1, q2, q3, q4⟩ := hK2
    exact ⟨l, e1 _ _ q1, q2.kp (.ex e1), q3, q4⟩
  · have : p = allC ns.length := by simpa using hp
    rw [this]
    exact allC_pat hcol.1
  · rintro H3 j d x σ' H4 e3 hd ⟨x0, y0, z0, ps, rfl, k4, eH4, hK4, hp4⟩ tv
    have hd' : (hR B (rowsOf ns B kvs))[j]? = some d := hd
    rw [List.getElem?_map, List.getElem?_map] at hd'
    cases hc : (contents ns)[j]? with
    | none => rw [hc] at hd'; cases hd'
    | some cc =>
      rw [hc] at hd'
      cases hd'
      refine sp_forTK (K := K) (ds := (rowE B (rowOf ns.length B kvs cc)).map eP) (evd_var (i := 2) rfl tv) (fun H5 i σ' H' => ∃ y z ps, σ' = [some (.ref a), some (.ref D0), some x, y, z] ∧ Kp H5 H' ∧ Kp H3 H' ∧ Ex H H' ∧ KW P w K H' D0 ps ∧ ∀ p ∈ ps, p ∈ pats ns.length) (fun H5 e5 => ⟨y0, z0, ps, rfl, Kp.refl _, k4.trans (.ex e5), eH4.trans e5, ?_, hp4⟩) (fun H1 i σ' H' ⟨_, _, _, _, e, _⟩ => e) ?_ ?_
      · obtain ⟨l, q1, q2, q3, q4⟩ := hK4
        exact ⟨l, e5 _ _ q1, q2.kp (.ex e5), q3, q4⟩
      · rintro H5 i d y σ' H6 e5 hd ⟨y1, z1, ps, rfl, k6, k36, eH6, ⟨l, q1, q2, q3, q4⟩, hp6⟩ tv6
        obtain ⟨q, hq, rfl⟩ := rowE_get hd
        refine gvg_pair tv6 (fun u v hu hv => ?_) _ fun σ2 H6 e7 q => q
        obtain ⟨bu, ebu, _⟩ := Tv.intsI hu
        subst ebu
        have hll : l.length < sizeLine := by
          have h1 := congrArg List.length q3
          unfold prs at h1
          rw [List.length_map, List.length_map, List.length_map] at h1
          have h2 : ps.length ≤ (pats ns.length).length := nodup_len q4 hp6
          have h3 := (pats_facts ns.length hcol.1).2.2.2.2.2.2
          exact sz_lt (by omega)
        refine ⟨.ref D0, rfl, .ref bu, rfl, D0, l, _, bu, rfl, q1, q2, rfl, hu, by rw [depth_eL]; decide, hll, ?_⟩
        have k7 : Kp H6 (upd H6 D0 (NDO P w D0 (putE l (eL q.1) bu (.bl true)))) := Kp.upd (nrd_ext q1)
        by_cases hm : q.1 ∈ ps
        · refine ⟨some (.ref bu), some v, ps, rfl, k6.trans k7, k36.trans k7, Ex.mut eH6 hD0, ⟨_, upd_same, (q2.put _ hu (by rw [depth_eL]; decide)).kp k7, ?_, q4⟩, hp6⟩
          rw [prs_put]
          unfold putK
          rw [if_pos]
          · rw [List.map_map, ← q3]
            refine List.map_congr_left fun x _ => ?_
            show (if x.1 = eL q.1 then (x.1, V.bl true) else x).1 = x.1
            split <;> rfl
          · rw [List.any_eq_true]
            have : eL q.1 ∈ (prs l).map (·.1) := by rw [q3]; exact List.mem_map.mpr ⟨_, hm, rfl⟩
            obtain ⟨x, hx, e⟩ := List.mem_map.mp this
            exact ⟨x, hx, decide_eq_true e⟩
        · refine ⟨some (.ref bu), some v, ps ++ [q.1], rfl, k6.trans k7, k36.trans k7, Ex.mut eH6 hD0, ⟨_, upd_same, (q2.put _ hu (by rw [depth_eL]; decide)).kp k7, ?_, ?_⟩, fun p hp => ?_⟩
          · have hn : valV (prs l) (eL q.1) = none := valV_none (by
              rw [q3]
              intro h
              obtain ⟨z, hz, e⟩ := List.mem_map.mp h
              exact hm (eL_inj e ▸ hz))
            rw [prs_put, putK_new _ hn, List.map_append, List.map_append, q3]
            rfl
          · exact List.nodup_append.mpr ⟨q4, by simp, fun a ha b hb e => hm (by
              have : b = q.1 := by simpa using hb
              rw [← this, ← e]
              exact ha)⟩
          · rcases List.mem_append.mp hp with hp | hp
            · exact hp6 p hp
            · have : p = q.1 := by simpa using hp
              rw [this]
              exact Gd.row_pat q (List.mem_of_getElem? hq)
      · rintro H5 σ' H6 e5 ⟨y1, z1, ps, rfl, k6, k36, eH6, hK6, hp6⟩
        exact ⟨some x, y1, z1, ps, rfl, k36, eH6, hK6, hp6⟩
  · rintro H3 σ' H4 e3 ⟨x0, y0, z0, ps, rfl, k4, eH4, hK4, hp4⟩
    have hS := evp_sortK (P := P) (w := w) (K := K) (σ := [some (.ref a), some (.ref D0), x0, y0, z0]) (H := H4) (te := tVar 1) (pred := fun ps => ∀ p ∈ ps, p ∈ pats ns.length) (evp_var rfl fun H5 e5 => ⟨D0, ps, rfl, by
      obtain ⟨l, q1, q2, q3, q4⟩ := hK4
      exact ⟨l, e5 _ _ q1, q2.kp (.ex e5), q3, q4⟩, hp4⟩) fun ps qs hpm h p hp => h p (hpm.mem_iff.mp hp)
    refine hS H4 (Ex.refl _) _ fun v H5 e5 ⟨qs, hqs, ll, ys, ev, hl, tl⟩ => ⟨ll, ys, by rw [ev], .inl ⟨sq_of hl, fun t ht => ?_⟩⟩
    exact k _ _ ((eH4.trans e5).trans (Ex.new ht)) ⟨qs, .tup (st_of upd_same) (tl.ex (Ex.new ht)), hqs⟩
end
end FM
/-! Fairness. -/
namespace FM
open PySem PySem.Spec PyProof.Rows L2 Evl
def rNdLen (P : Program) (w : World) (K : PySem.W.Frag) : List V → Hp → VK → Prop := fun xs H Q => ∃ a kvs, xs = [.ref a] ∧ Dr P w K H a kvs ∧ Q (.int ((kvs.length : Nat) : Int)) H
theorem gvg_any {K : PySem.W.Frag} {σ : L2.St} {H : Hp} {x : V} {i j : Nat} {d1 d2 : NestedKey} {Q : L2.St → Hp → Prop} (hx : Tv K H x (.tup [d1, d2])) (h : ∀ u w, Tv K H u d1 → Tv K H w d2 → Q ((σ.set i (some u)).set j (some w)) H) : gTup K 2 (gCons (gName i) (gCons (gName j) gNil)) x σ H Q := gvg_pair (N := Q) hx h _ fun _ _ _ q => q
section
variable {P : Program} {w : World} {K : PySem.W.Frag} {σ : L2.St} {H : Hp}
theorem evp_ndNew : EvP (tNdNew P w) σ H (fun v H2 => ∃ D, v = .ref D ∧ H D = none ∧ DW P w K H2 D [] []) := fun H1 e Q q p hp => q _ _ (Ex.new hp) ⟨p, rfl, fresh_back e hp, [], ⟨[], upd_same, (fun x hx => by cases hx), rfl⟩, rfl, .nil⟩
theorem ev_ndLen {a : Addr} {te : TE} {ks ds : List NestedKey} (h : Ev te σ H (.ref a)) (hd : DD P w K H a ks ds) : Ev (tCB (rNdLen P w K) (tCons te tNil)) σ H (.int (ks.length : Int)) := fun H1 e Q q =>
  h H1 e _ fun H2 e2 => by
    obtain ⟨kvs, h1, h2, h3⟩ := hd.ex (e.trans e2)
    have := congrArg List.length h2
    rw [List.length_map] at this
    exact ⟨a, kvs, rfl, h1, by rw [this]; exact q H2 e2⟩
end
def unK (pp c : List Int) : NestedKey := eB (pp, proj pp c)
def unD (ns : List Nat) (B : Int) (kvs : Bks) (pp c : List Int) : NestedKey := .tup [eL c, eF (lw (shareN (rowOf ns.length B kvs c) pp) B)]
def UnI (P : Program) (w : World) (K : PySem.W.Frag) (ns : List Nat) (B : Int) (kvs : Bks) (pp : List Int) (a D1 D2 : Addr) (p : V) (H H3 : Hp) (σ' : L2.St) (H' : Hp) : Prop := ∃ (x4 x5 x6 x7 x8 : Option V) (m : List (List Int)), σ' = [some (.ref a), some p, some (.ref D1), some (.ref D2), x4, x5, x6, x7, x8] ∧ KpL H3 H' ∧ Ex H H' ∧
  DW P w K H' D1 (m.map (unK pp)) (m.map (unD ns B kvs pp)) ∧ (m.map (unK pp)).Nodup ∧ (∀ c ∈ m, c ∈ contents ns) ∧ DW P w K H' D2 [] []
section
variable {P : Program} {w : World} {K : PySem.W.Frag} {mg : Str → Option Value} {base : Heap} {aN aO : Addr} {tC tM : Tok} {CH CR fK fI fR fE : Addr}
theorem sc_unlike_pair : FnScope ["habit", "pattern", "firsts", "found", "content", "box", "part", "one", "due"] ["habit", "pattern"] (defScope (top 43)) := ⟨rfl, rfl, rfl, by decide +kernel, rfl, by decide +kernel, by decide +kernel⟩
def fUnlike (P : Program) (w : World) (K : PySem.W.Frag) (CH CR : Addr) : List V → Hp → VP → Prop := fun vs H R => ∃ (a C : Addr) (p : V) (ns : List Nat) (B : Int) (kvs : Bks) (pp : List Int), vs = [.ref a, p] ∧ (C = CH ∨ C = CR) ∧ Hab P w K H a C ns B (rowsOf ns B kvs) ∧ Gd ns B kvs ∧ Tv K H p (eL pp) ∧ pp ∈ pats ns.length ∧ R = IsV .non
theorem fn_unlike_pair (D : Df K mg "unlike_pair" "unlike_pair" (top 43) ["habit", "pattern"]) (T : Txt K mg aN aO tC tM) (C : TxC K mg CH CR fK fI fR fE) (G_raw_contents : Fn P w K mg base "raw_contents" 1 ["sizes"] (spD K (fContents K)))
    (G_raw_box : Fn P w K mg base "raw_box" 1 ["pattern", "content"] (spD K (fBox K))) (G_raw_share : Fn P w K mg base "raw_share" 1 ["habit", "pattern", "content"] (spG (fRawShare P w K CH CR))) : Fn P w K mg base "unlike_pair" 2 ["habit", "pattern"] (spG (fUnlike P w K CH CR)) := by
  refine D.fn fun f fd F => ?_
  refine F.ok sc_unlike_pair (fun vs H Q E h => by obtain ⟨R, ⟨a, C1, p, ns, B, kvs, pp, rfl, _⟩, _⟩ := h; rfl) (fun cdv A outer s H vs Q E hr h => ?_)
  obtain ⟨R, ⟨a, C1, p, ns, B, kvs, pp, rfl, hC, hH, g, dp, hpp, rfl⟩, k⟩ := h
  have hu64 := hr.units
  have hu9 : (A.deeper (envOfC "unlike_pair" (defScope (top 43)) s.heap.objs.size f cdv)).units + 9 < cLine := by omega
  refine ⟨_, (pss_cons (ps_set (i := 2) sc_unlike_pair.nd rfl (.inl rfl) pe_ndNew)
      (pss_cons (ps_set (i := 3) sc_unlike_pair.nd rfl (.inl rfl) pe_ndNew)
      (pss_cons (ps_for PassesOwn.never rfl (pi_list (pe_callF G_raw_contents (hr.mono (by decide)) (pa_cons (pe_fld (pv 0) rfl) pa_nil))) (pg_name (i := 4) sc_unlike_pair.nd rfl (.inl rfl))
        (pss_cons (ps_set (i := 5) sc_unlike_pair.nd rfl (.inl rfl) (pe_callF G_raw_box (hr.mono (by decide)) (pa_cons (pv 1) (pa_cons (pv 4) pa_nil))))
        (pss_cons (ps_set (i := 6) sc_unlike_pair.nd rfl (.inl rfl) (pe_callF G_raw_share (hr.mono (by decide)) (pa_cons (pv 0) (pa_cons (pv 1) (pa_cons (pv 4) pa_nil)))))
        (pss_cons (ps_asg (pe_ndM PySem.F.slot_dict_setdefault PySem.F.type_dict_setdefault (mt_ndSetd hu9) (pv 2) (pa_cons (pv 5) (pa_cons (pe_tup (pa_cons (pv 4) (pa_cons (pv 6) pa_nil))) pa_nil))) (pg_tup (n := 2) rfl (pgs_cons (pg_name (i := 7) sc_unlike_pair.nd rfl (.inl rfl)) (pgs_cons (pg_name (i := 8) sc_unlike_pair.nd rfl (.inl rfl)) pgs_nil))))
        (pss_one (ps_if (pw_and (pt_cmpR (r := rEqT K true) (op_neT hu64) (pv 6) (pv 8) (nomark _)) (pw_and1 (pt_cmpR (op_ndNotIn hu9) (pv 5) (pv 3) (by rfl)))).pt (pss_one (ps_ndPut hu9 (pv 3) (pv 5) (pe_tup (pa_cons (pv 7) (pa_cons (pv 4) pa_nil))) rfl)) pss_nil))))))
      (pss_one (ps_ret (pe_ifExp (pt_cmpR op_gt (pe_callB (r := rNdLen P w K) call_ndLen (by rfl) T.len boot_len (pa_cons (pv 3) pa_nil)) pe_int (nomark _)) pe_never pe_non)))))), ?_⟩
  obtain ⟨cl, n1, n2, n3⟩ := C.cls hC
  have hcol := g.col
  have hf := contents_facts ns g.sz
  have gp := pats_ok hcol.1 hpp
  refine qp_asg (evp_ndNew (P := P) (w := w) (K := K)) fun v1 H1 e1 ⟨D1, ev1, f1, hD1⟩ => ?_
  subst ev1
  refine qp_asg (evp_ndNew (P := P) (w := w) (K := K)) fun v2 H2 e2 ⟨D2, ev2, f2, hD2⟩ => ?_
  subst ev2
  have e12 := e1.trans e2
  have fD2 : H D2 = none := fresh_back e1 f2
  have n12 : D2 ≠ D1 := fun z => by
    subst z
    obtain ⟨φ, hφ⟩ := hD1.some
    rw [f2] at hφ
    cases hφ
  refine qp_forLK (evp_callD (f := fContents K) (E := EN) (ead_cons (evd_sizes (hH.ex e12) cl n1 (ev_var (i := 0) rfl)) ead_nil) ⟨ns, rfl, g.sz, rfl⟩)
    (fun H1 i σ' H' => UnI P w K ns B kvs pp a D1 D2 p H H1 σ' H') (fun H3 e3 => ⟨none, none, none, none, none, [], rfl, KpL.refl _, e12.trans e3, (hD1.ex e2).ex e3, List.nodup_nil, (fun c hc => by cases hc), hD2.ex e3⟩) (fun H1 i σ' H' ⟨_, _, _, _, _, _, _, e, _⟩ => e) ?_ ?_
  · rintro H3 i d x σ' H4 e3 hd ⟨x4, x5, x6, x7, x8, m, rfl, k4, eH4, hm, hmn, hmc, hD4⟩ tv
    rw [List.getElem?_map] at hd
    obtain ⟨cc, hc, rfl⟩ := Option.map_eq_some_iff.mp hd
    have hcc := List.mem_of_getElem? hc
    have hco := con_ok g.sz hcc
    show tSeq _ _ _ (_ : L2.St) H4
    -- box, part
    refine qp_asg (evp_callD (ead_cons (evd_var rfl (dp.ex eH4)) (ead_cons (evd_var rfl tv) ead_nil)) ⟨pp, cc, rfl, pat_in gp.1 hco.1, by omega, rfl⟩) fun vb H5 e5 hb => ?_
    have hH5 := hH.ex (eH4.trans e5)
    refine qp_asg (P := IsD K (eF (lw (shareN (rowOf ns.length B kvs cc) pp) B))) (evp_call (F := fRawShare P w K CH CR) (eap_cons (P := IsV (V.ref a)) (evp_v (ev_var rfl)) sty_V (eap_cons (P := IsD K (eL pp)) (evd_var rfl (dp.ex (eH4.trans e5))) sty_D (eap_cons (P := IsD K (eL cc)) (evd_var rfl (tv.ex e5)) sty_D eap_nil))) fun vs H6 e6 ⟨y1, w1, q1, h1, y2, w2, q2, h2, y3, w3, q3, h3, q4⟩ => by
      cases h1
      exact ⟨_, ⟨a, C1, y2, y3, ns, B, kvs, pp, cc, by rw [q1, q2, q3, q4], hC, hH5.ex e6, g, h2, h3, hcc, rfl⟩, fun _ _ _ h => h⟩) fun vp H6 e6 hp => ?_
    have e46 := e5.trans e6
    have eH6 := eH4.trans e46
    obtain ⟨l, l1, l2, l3, l4⟩ := dw_obj (hm.ex e46)
    have hl4 : m.length ≤ (contents ns).length := by
      have hn : m.Nodup := by
        have := List.pairwise_map.mp hmn
        exact this.imp fun {a b} h e => h (by rw [e])
      exact nodup_len hn hmc
    have hll : l.length < sizeLine := by
      have h1 := congrArg List.length l3
      unfold prs at h1
      rw [List.length_map, List.length_map, List.length_map] at h1
      exact sz_lt (by omega)
    -- firsts.setdefault
    have fin : ∀ (u v : V) (H7 : Hp) (m' : List (List Int)), KpL H6 H7 → Ex H H7 → DW P w K H7 D1 (m'.map (unK pp)) (m'.map (unD ns B kvs pp)) → (m'.map (unK pp)).Nodup → (∀ c ∈ m', c ∈ contents ns) → DW P w K H7 D2 [] [] → Tv K H7 v (eF (lw (shareN (rowOf ns.length B kvs cc) pp) B)) →
        tIfS (tAnd (tTest (tOp (rEqT K true) (tVar 6) (tVar 8))) (tTest (tOp (rNdIn P w K true) (tVar 5) (tVar 3)))) (sNdPut P w K (tVar 3) (tVar 5) (tTup (tCons (tVar 7) (tCons (tVar 4) tNil)))) tNext
          { nx := fun σ' H' => UnI P w K ns B kvs pp a D1 D2 p H H3 σ' H', rt := Q, bk := (tRet (tIf (tTest (tOp (rI0 fun i j => .bl (decide (j < i))) (tCB (rNdLen P w K) (tCons (tVar 3) tNil)) (L2.tC (.int 0)))) (fun _ _ _ => False) (L2.tC .non))) { nx := fun _ H' => Q .non H', rt := Q }, ct := fun σ' H' => UnI P w K ns B kvs pp a D1 D2 p H H3 σ' H' } [some (.ref a), some p, some (.ref D1), some (.ref D2), some x, some vb, some vp, some u, some v] H7 := by
      intro u v H7 m' k7 eH7 hm' hmn' hmc' hD7 hv
      refine s_when (b := false) (et_and (a := false) (b := true) (et_test (Ev.cast (ev_eqT (neg := true) (evd_var rfl (hp.kp k7.1)) (evd_var rfl hv) (by rw [depth_eF]; decide) (by rw [depth_eF]; decide)) (by simp))) fun h => by cases h) (fun h => by cases h) fun _ H8 e8 => ?_
      exact ⟨some x, some vb, some vp, some u, some v, m', rfl, ((k4.trans (.ex e46)).trans k7).trans (.ex e8), eH7.trans e8, hm'.ex e8, hmn', hmc', hD7.ex e8⟩
    refine ⟨.ref D1, rfl, ⟨D1, l, rfl, .inl l1⟩, ?_⟩
    have args : EaD K (tCons (tVar 5) (tCons (tTup (tCons (tVar 4) (tCons (tVar 6) tNil))) tNil)) [some (.ref a), some p, some (.ref D1), some (.ref D2), some x, some vb, some vp, x7, x8] H6 [eB (pp, proj pp cc), .tup [eL cc, eF (lw (shareN (rowOf ns.length B kvs cc) pp) B)]] :=
      ead_cons (evd_var rfl (Tv.ex hb e6)) (ead_cons (evd_tup (ead_cons (evd_var rfl (tv.ex e46)) (ead_cons (evd_var rfl hp) ead_nil)) (by show 2 ≤ 100000; decide)) ead_nil)
    refine args H6 (Ex.refl _) _ fun xs H7 e7 hx => ?_
    obtain ⟨ub, ut, rfl, tb, tt⟩ := tva2 hx
    obtain ⟨bb, _, rfl, _, _⟩ := Tv.tupI tb
    have l1' := e7 _ _ l1
    have l2' := l2.kp (.ex e7)
    refine ⟨D1, l, _, bb, ut, rfl, rfl, l1', l2', tb, by rw [depth_eB]; decide, hll, fun v hv => ?_, fun hn => ?_⟩
    · -- there already
      have hin : unK pp cc ∈ m.map (unK pp) := by
        rw [← l3]
        have hh : (valV (prs l) (eB (pp, proj pp cc))).isSome = true := by rw [hv]; rfl
        rw [← valV_any, List.any_eq_true] at hh
        obtain ⟨z, hz1, hz2⟩ := hh
        exact List.mem_map.mpr ⟨z, hz1, of_decide_eq_true hz2⟩
      obtain ⟨c', hc', ec'⟩ := List.mem_map.mp hin
      obtain ⟨j, hj, ej⟩ := List.getElem_of_mem hc'
      have hmj : m[j]? = some c' := by rw [List.getElem?_eq_getElem hj, ej]
      obtain ⟨v', d', hv', hd', tv'⟩ := dd_val (kvs := prs l) hmn l3 (l4.ex e7) (k := unK pp cc) (i := j) (by rw [List.getElem?_map, hmj]; show some (unK pp c') = _; rw [ec'])
      have hv2 : valV (prs l) (unK pp cc) = some v := hv
      rw [hv2] at hv'
      cases hv'
      rw [List.getElem?_map, hmj] at hd'
      cases hd'
      have hpr : proj pp c' = proj pp cc := congrArg Prod.snd (eB_inj ec')
      have hsh := g.fair (p := pp) (hmc c' hc') hcc hpr
      have tv2 : Tv K H7 v (.tup [eL c', eF (lw (shareN (rowOf ns.length B kvs c') pp) B)]) := tv'
      rw [hsh] at tv2
      exact gvg_any tv2 fun u v hu hv => fin u v H7 m (.ex e7) (eH6.trans e7) (⟨_, ⟨l, l1', l2', rfl⟩, l3, l4.ex e7⟩) hmn hmc (hD4.ex (e46.trans e7)) hv
    · -- new
      have k8 : Kp H7 (upd H7 D1 (NDO P w D1 (putE l (eB (pp, proj pp cc)) bb ut))) := Kp.upd (nrd_ext l1')
      have kl8 : KpL H7 (upd H7 D1 (NDO P w D1 (putE l (eB (pp, proj pp cc)) bb ut))) := KpL.of l1' ExB.upd k8
      have hnin : unK pp cc ∉ m.map (unK pp) := fun h => by
        obtain ⟨c', hc', ec'⟩ := List.mem_map.mp h
        obtain ⟨j, hj, ej⟩ := List.getElem_of_mem hc'
        have hmj : m[j]? = some c' := by rw [List.getElem?_eq_getElem hj, ej]
        obtain ⟨v', d', hv', _⟩ := dd_val (kvs := prs l) hmn l3 (l4.ex e7) (k := unK pp cc) (i := j) (by rw [List.getElem?_map, hmj]; show some (unK pp c') = _; rw [ec'])
        have hn' : valV (prs l) (unK pp cc) = none := hn
        rw [hn'] at hv'
        cases hv'
      refine gvg_any (tt.kp k8) fun u v hu hv => fin u v _ (m ++ [cc]) ((KpL.ex e7).trans kl8) (Ex.mut (eH6.trans e7) f1) ?_ ?_ ?_ ?_ hv
      · rw [List.map_append, List.map_append]
        exact dw_new l1' l2' l3 (l4.ex e7) hnin tb (by rw [depth_eB]; decide) tt
      · rw [List.map_append]
        refine List.nodup_append.mpr ⟨hmn, by simp, fun x hx y hy e => hnin ?_⟩
        have : y = unK pp cc := by simpa using hy
        rw [← this, ← e]
        exact hx
      · intro c hc'
        rcases List.mem_append.mp hc' with h | h
        · exact hmc c h
        · have : c = cc := by simpa using h
          rw [this]
          exact hcc
      · exact (hD4.ex (e46.trans e7)).exB n12 ExB.upd k8
  · rintro H3 σ' H4 e3 ⟨x4, x5, x6, x7, x8, m, rfl, k4, eH4, hm, hmn, hmc, hD4⟩
    refine sp_ret (P := IsV .non) (evp_if (b := false) (et_test (Ev.cast (ev_op (ev_ndLen (ev_var rfl) hD4.r) ev_c rv_I0) (by rfl))) (fun h => by cases h) fun _ => evp_v ev_c) fun v H5 e5 p => k v H5 (eH4.trans e5) p
end
end FM
/-! Fairness asked; the boxes told. -/
namespace FM
open PySem PySem.Spec PyProof.Rows L2 Evl
section
variable {P : Program} {w : World} {K : PySem.W.Frag} {mg : Str → Option Value} {base : Heap} {aN aO : Addr} {tC tM : Tok} {CH CR fK fI fR fE : Addr}
theorem ev_isN {σ : L2.St} {H : Hp} {te : TE} {x : V} (h : Ev te σ H x) : Ev (tIsN te) σ H (.bl (decide (x = .non))) := fun H1 e Q q => h H1 e _ fun H2 e2 => q H2 e2
theorem ev_notN {σ : L2.St} {H : Hp} {te : TE} {x : V} (h : Ev te σ H x) : Ev (tNotN te) σ H (.bl (!decide (x = .non))) := fun H1 e Q q => h H1 e _ fun H2 e2 => q H2 e2
/-- one habit, fair -/
def fHab (P : Program) (w : World) (K : PySem.W.Frag) (CH CR : Addr) (z : V) : List V → Hp → VP → Prop := fun vs H R => ∃ (a C : Addr) (ns : List Nat) (B : Int) (kvs : Bks), vs = [.ref a] ∧ (C = CH ∨ C = CR) ∧ Hab P w K H a C ns B (rowsOf ns B kvs) ∧ Gd ns B kvs ∧ R = IsV z
theorem fHab_call {σ : L2.St} {H : Hp} {te : TE} {z : V} {a C : Addr} {ns : List Nat} {B : Int} {kvs : Bks} (h : Ev te σ H (.ref a)) (hC : C = CH ∨ C = CR) (hH : Hab P w K H a C ns B (rowsOf ns B kvs)) (g : Gd ns B kvs) : Ev (tCall (spG (fHab P w K CH CR z)) [] EN (tCons te tNil)) σ H z :=
  (evp_call (F := fHab P w K CH CR z) (P := IsV z) (eap_cons (evp_v h) sty_V eap_nil) fun vs H2 e2 ⟨x, ws, q1, h1, q2⟩ => by
    cases h1
    exact ⟨_, ⟨a, C, ns, B, kvs, by rw [q1, q2], hC, hH.ex e2, g, rfl⟩, fun _ _ _ h => h⟩).ev
theorem sc_raw_unfair : FnScope ["habit", "pattern", "pair"] ["habit"] (defScope (top 44)) := ⟨rfl, rfl, rfl, by decide +kernel, rfl, by decide +kernel, by decide +kernel⟩
theorem fn_raw_unfair (D : Df K mg "raw_unfair" "raw_unfair" (top 44) ["habit"]) (T : Txt K mg aN aO tC tM) (G_raw_patterns : Fn P w K mg base "raw_patterns" 2 ["habit"] (spG (fRawPatterns P w K CH CR))) (G_unlike_pair : Fn P w K mg base "unlike_pair" 2 ["habit", "pattern"] (spG (fUnlike P w K CH CR))) :
    Fn P w K mg base "raw_unfair" 3 ["habit"] (spG (fHab P w K CH CR .non)) := by
  refine D.fn fun f fd F => ?_
  refine F.ok sc_raw_unfair (fun vs H Q E h => by obtain ⟨R, ⟨a, C1, ns, B, kvs, rfl, _⟩, _⟩ := h; rfl) (fun cdv A outer s H vs Q E hr h => ?_)
  obtain ⟨R, ⟨a, C1, ns, B, kvs, rfl, hC, hH, g, rfl⟩, k⟩ := h
  have hu64 := hr.units
  refine ⟨_, (pss_cons (ps_for PassesOwn.never rfl (pi_tup (pe_callF G_raw_patterns (hr.mono (by decide)) (pa_cons (pv 0) pa_nil))) (pg_name (i := 1) sc_raw_unfair.nd rfl (.inl rfl))
        (pss_cons (ps_set (i := 2) sc_raw_unfair.nd rfl (.inl rfl) (pe_callF G_unlike_pair (hr.mono (by decide)) (pa_cons (pv 0) (pa_cons (pv 1) pa_nil))))
        (pss_one (ps_if (pt_cmp (pc_notN (pv 2))) (pss_one (ps_ret (pe_op (r := rCatA K) op_catA (pe_tup (pa_cons (pv 1) pa_nil)) (pv 2)))) pss_nil))))
      (pss_one (ps_ret pe_non))), ?_⟩
  have hp : EvP _ (start ["habit", "pattern", "pair"] [.ref a]) H (fun v H2 => ∃ ps : List (List Int), Tv K H2 v (.tup (ps.map eL)) ∧ ∀ p ∈ ps, p ∈ pats ns.length) := evp_call (F := fRawPatterns P w K CH CR) (E := EN) (ta := tCons (tVar 0) tNil) (eap_cons (evp_v (ev_var (v := V.ref a) rfl)) sty_V eap_nil) fun vs H2 e2 ⟨x, ws, q1, h1, q2⟩ => by
    cases h1
    exact ⟨_, ⟨a, C1, ns, B, kvs, by rw [q1, q2], hC, hH.ex e2, g, rfl⟩, fun _ _ _ h => h⟩
  refine hp H (Ex.refl H) _ fun v H1 e1 ⟨ps, tv, hps⟩ => ?_
  obtain ⟨t, xs, rfl, hsq, hta⟩ := Tv.tupI tv
  have hxl : xs.length = ps.length := by rw [hta.length, List.length_map]
  refine ⟨t, rfl, ⟨xs, hsq⟩, for_tup (fun i σ' H' => ∃ y z, σ' = [some (.ref a), y, z] ∧ Ex H1 H') ⟨none, none, rfl, Ex.refl H1⟩ (fun i σ' H' _ ⟨_, _, _, e⟩ => ex_t e hsq) (fun i x σ' H' hx q => ?_) fun σ' H' q => ?_⟩
  · obtain ⟨y, z, rfl, e⟩ := q
    obtain ⟨d, hd, tx⟩ := hta.get hx
    rw [List.getElem?_map] at hd
    obtain ⟨pp, hpp, rfl⟩ := Option.map_eq_some_iff.mp hd
    show tSeq _ _ _ (_ : L2.St) H'
    refine qp_asg (P := IsV .non) (evp_call (F := fUnlike P w K CH CR) (eap_cons (P := IsV (V.ref a)) (evp_v (ev_var rfl)) sty_V (eap_cons (P := IsD K (eL pp)) (evd_var rfl (tx.ex e)) sty_D eap_nil)) fun vs H2 e2 ⟨x1, w1, q1, h1, x2, w2, q2, h2, q3⟩ => by
      cases h1
      exact ⟨_, ⟨a, C1, x2, ns, B, kvs, pp, by rw [q1, q2, q3], hC, hH.ex ((e1.trans e).trans e2), g, h2, hps pp (List.mem_of_getElem? hpp), rfl⟩, fun _ _ _ h => h⟩) fun v H2 e2 hv => ?_
    cases hv
    refine s_when (b := false) (et_B (ev_notN (ev_var (v := V.non) rfl))) (fun h => by cases h) fun _ H3 e3 => ⟨some x, some .non, rfl, (e.trans e2).trans e3⟩
  · obtain ⟨y, z, rfl, e⟩ := q
    show tRet (L2.tC .non) { nx := fun _ H' => Q .non H', rt := Q } [some (.ref a), y, z] H'
    exact s_ret ev_c fun H2 e2 => k _ _ ((e1.trans e).trans e2) rfl
theorem sc_unfair : FnScope ["habit"] ["habit"] (defScope (top 45)) := ⟨rfl, rfl, rfl, by decide +kernel, rfl, by decide +kernel, by decide +kernel⟩
theorem fn_unfair (D : Df K mg "unfair" "unfair" (top 45) ["habit"]) (T : Txt K mg aN aO tC tM) (G_raw_unfair : Fn P w K mg base "raw_unfair" 3 ["habit"] (spG (fHab P w K CH CR .non))) : Fn P w K mg base "unfair" 4 ["habit"] (spG (fHab P w K CH CR .non)) := by
  refine D.fn fun f fd F => ?_
  refine F.ok sc_unfair (fun vs H Q E h => by obtain ⟨R, ⟨a, C1, ns, B, kvs, rfl, _⟩, _⟩ := h; rfl) (fun cdv A outer s H vs Q E hr h => ?_)
  obtain ⟨R, ⟨a, C1, ns, B, kvs, rfl, hC, hH, g, rfl⟩, k⟩ := h
  refine ⟨_, (pss_one (ps_ret (pe_callF G_raw_unfair (hr.mono (by decide)) (pa_cons (pv 0) pa_nil)))), ?_⟩
  exact s_ret (fHab_call (ev_var rfl) hC hH g) fun H2 e2 => k _ _ e2 rfl
theorem sc_is_fair : FnScope ["habit"] ["habit"] (defScope (top 46)) := ⟨rfl, rfl, rfl, by decide +kernel, rfl, by decide +kernel, by decide +kernel⟩
theorem fn_is_fair (D : Df K mg "is_fair" "is_fair" (top 46) ["habit"]) (T : Txt K mg aN aO tC tM) (G_raw_unfair : Fn P w K mg base "raw_unfair" 3 ["habit"] (spG (fHab P w K CH CR .non))) : Fn P w K mg base "is_fair" 4 ["habit"] (spG (fHab P w K CH CR (.bl true))) := by
  refine D.fn fun f fd F => ?_
  refine F.ok sc_is_fair (fun vs H Q E h => by obtain ⟨R, ⟨a, C1, ns, B, kvs, rfl, _⟩, _⟩ := h; rfl) (fun cdv A outer s H vs Q E hr h => ?_)
  obtain ⟨R, ⟨a, C1, ns, B, kvs, rfl, hC, hH, g, rfl⟩, k⟩ := h
  refine ⟨_, (pss_one (ps_ret (pe_cmp (pc_isN (pe_callF G_raw_unfair (hr.mono (by decide)) (pa_cons (pv 0) pa_nil)))))), ?_⟩
  exact s_ret (ev_isN (fHab_call (ev_var rfl) hC hH g)) fun H2 e2 => k _ _ e2 rfl
theorem sc_check_fair : FnScope ["habit"] ["habit"] (defScope (top 47)) := ⟨rfl, rfl, rfl, by decide +kernel, rfl, by decide +kernel, by decide +kernel⟩
theorem fn_check_fair (D : Df K mg "check_fair" "check_fair" (top 47) ["habit"]) (T : Txt K mg aN aO tC tM) (G_raw_unfair : Fn P w K mg base "raw_unfair" 3 ["habit"] (spG (fHab P w K CH CR .non))) : Fn P w K mg base "check_fair" 4 ["habit"] (spG (fHab P w K CH CR .non)) := by
  refine D.fn fun f fd F => ?_
  refine F.ok sc_check_fair (fun vs H Q E h => by obtain ⟨R, ⟨a, C1, ns, B, kvs, rfl, _⟩, _⟩ := h; rfl) (fun cdv A outer s H vs Q E hr h => ?_)
  obtain ⟨R, ⟨a, C1, ns, B, kvs, rfl, hC, hH, g, rfl⟩, k⟩ := h
  refine ⟨_, (pss_one (ps_if (pt_cmp (pc_notN (pe_callF G_raw_unfair (hr.mono (by decide)) (pa_cons (pv 0) pa_nil)))) (pss_one ps_never) pss_nil)), ?_⟩
  refine s_when (b := false) (et_B (ev_notN (fHab_call (ev_var rfl) hC hH g))) (fun h => by cases h) fun _ H1 e1 => ?_
  exact k _ H1 e1 rfl
theorem sc_raw_box_shares : FnScope ["habit", "whole", "found", "content", "pattern", "part"] ["habit"] (defScope (top 48)) := ⟨rfl, rfl, rfl, by decide +kernel, rfl, by decide +kernel, by decide +kernel⟩
def fBoxShares (P : Program) (w : World) (K : PySem.W.Frag) (CH CR : Addr) : List V → Hp → VP → Prop := fun vs H R => ∃ (a C : Addr) (ns : List Nat) (B : Int) (kvs : Bks), vs = [.ref a] ∧ (C = CH ∨ C = CR) ∧ Hab P w K H a C ns B (rowsOf ns B kvs) ∧ Gd ns B kvs ∧
  R = fun v H2 => ∃ (b : Addr) (m : Bks), v = .ref b ∧ H b = none ∧ DW P w K H2 b (bK m) (bD B m) ∧ (m.map (·.1)).Nodup ∧ ∀ x, x ∈ m ↔ x ∈ kvs ∧ x.2 ≠ 0
/-- what stands between two turns: cs the contents done, r the entries of the next done -/
def BxI (P : Program) (w : World) (K : PySem.W.Frag) (ns : List Nat) (B : Int) (kvs : Bks) (a D1 : Addr) (vw : V) (H H3 : Hp) (cs : List (List Int)) (c : List Int) (r : Row) (σ' : L2.St) (H' : Hp) : Prop := ∃ (x3 x4 x5 : Option V) (m : Bks), σ' = [some (.ref a), some vw, some (.ref D1), x3, x4, x5] ∧ KpL H3 H' ∧ Ex H H' ∧
  DW P w K H' D1 (bK m) (bD B m) ∧ (m.map (·.1)).Nodup ∧ (∀ x ∈ m, x ∈ kvs ∧ x.2 ≠ 0) ∧ (∀ d ∈ cs, ∀ y ∈ rowOf ns.length B kvs d, y.1 ≠ allC ns.length → ((y.1, proj y.1 d), y.2) ∈ m) ∧ ∀ y ∈ r, y.1 ≠ allC ns.length → ((y.1, proj y.1 c), y.2) ∈ m
theorem fn_raw_box_shares (D : Df K mg "raw_box_shares" "raw_box_shares" (top 48) ["habit"]) (T : Txt K mg aN aO tC tM) (C : TxC K mg CH CR fK fI fR fE) (G_all_columns : Fn P w K mg base "all_columns" 1 ["columns"] (spD K (fAllC K))) (G_raw_contents : Fn P w K mg base "raw_contents" 1 ["sizes"] (spD K (fContents K)))
    (G_raw_box : Fn P w K mg base "raw_box" 1 ["pattern", "content"] (spD K (fBox K))) : Fn P w K mg base "raw_box_shares" 2 ["habit"] (spG (fBoxShares P w K CH CR)) := by
  refine D.fn fun f fd F => ?_
  refine F.ok sc_raw_box_shares (fun vs H Q E h => by obtain ⟨R, ⟨a, C1, ns, B, kvs, rfl, _⟩, _⟩ := h; rfl) (fun cdv A outer s H vs Q E hr h => ?_)
  obtain ⟨R, ⟨a, C1, ns, B, kvs, rfl, hC, hH, g, rfl⟩, k⟩ := h
  have hu64 := hr.units
  have hu9 : (A.deeper (envOfC "raw_box_shares" (defScope (top 48)) s.heap.objs.size f cdv)).units + 9 < cLine := by omega
  refine ⟨_, (pss_cons (ps_set (i := 1) sc_raw_box_shares.nd rfl (.inl rfl) (pe_callF G_all_columns (hr.mono (by decide)) (pa_cons (pe_callB (r := rLenS K) call_len_seq (by rfl) T.len boot_len (pa_cons (pe_fld (pv 0) rfl) pa_nil)) pa_nil)))
      (pss_cons (ps_set (i := 2) sc_raw_box_shares.nd rfl (.inl rfl) pe_ndNew)
      (pss_cons (ps_for PassesOwn.never rfl (pi_list (pe_callF G_raw_contents (hr.mono (by decide)) (pa_cons (pe_fld (pv 0) rfl) pa_nil))) (pg_name (i := 3) sc_raw_box_shares.nd rfl (.inl rfl))
        (pss_one (ps_for PassesOwn.never rfl (pi_tup (pe_ndGetK (P := P) (w := w) (K := K) rfl rfl rfl hu9 (pe_fld (pv 0) rfl) (pv 3) (fun _ _ => rfl))) (pg_tup (n := 2) rfl (pgs_cons (pg_name (i := 4) sc_raw_box_shares.nd rfl (.inl rfl)) (pgs_cons (pg_name (i := 5) sc_raw_box_shares.nd rfl (.inl rfl)) pgs_nil)))
          (pss_one (ps_if (pt_cmpR (r := rEqT K true) (op_neT hu64) (pv 4) (pv 1) (nomark _)) (pss_one (ps_ndPut hu9 (pv 2) (pe_callF G_raw_box (hr.mono (by decide)) (pa_cons (pv 4) (pa_cons (pv 3) pa_nil))) (pv 5) rfl)) pss_nil)))))
      (pss_one (ps_ret (pv 2)))))), ?_⟩
  obtain ⟨cl, n1, n2, n3⟩ := C.cls hC
  have hcol := g.col
  have hf := contents_facts ns g.sz
  have hzl : ((zL ns).map NestedKey.num).length = ns.length := map_len (zL_len ns)
  refine qp_asg (P := IsD K (eL (allC ns.length))) (evp_callD (f := fAllC K) (ead_cons (evd_i (Ev.castI (ev_lenD (evd_sizes hH cl n1 (ev_var rfl))) (j := (ns.length : Int)) (by rw [hzl]))) ead_nil) ⟨ns.length, rfl, by omega, rfl⟩) fun vw H1 e1 hw => ?_
  refine qp_asg (evp_ndNew (P := P) (w := w) (K := K)) fun v2 H2 e2 ⟨D1, ev2, f2, hD2⟩ => ?_
  subst ev2
  have e12 := e1.trans e2
  have fD1 : H D1 = none := fresh_back e1 f2
  refine qp_forLK (evp_callD (f := fContents K) (E := EN) (ead_cons (evd_sizes (hH.ex e12) cl n1 (ev_var (i := 0) rfl)) ead_nil) ⟨ns, rfl, g.sz, rfl⟩)
    (fun H3 i σ' H' => BxI P w K ns B kvs a D1 vw H H3 ((contents ns).take i) [] [] σ' H') (fun H3 e3 => ⟨none, none, none, [], rfl, KpL.refl _, e12.trans e3, hD2.ex e3, List.nodup_nil, (fun c hc => by cases hc), (fun d hd => by cases hd), fun y hy => by cases hy⟩) (fun H1 i σ' H' ⟨_, _, _, _, _, e, _⟩ => e) ?_ ?_
  · rintro H3 i d x σ' H4 e3 hd ⟨x3, x4, x5, m, rfl, k4, eH4, hm, hmn, hmk, hmc, _⟩ tv
    rw [List.getElem?_map] at hd
    obtain ⟨cc, hc, rfl⟩ := Option.map_eq_some_iff.mp hd
    have hcc := List.mem_of_getElem? hc
    have hco := con_ok g.sz hcc
    have hri : (rowsOf ns B kvs)[i]? = some (rowOf ns.length B kvs cc) := by rw [List.getElem?_map, hc]; rfl
    refine sp_forTK (evd_kept (hH.ex eH4) cl n3 g.sz (ev_var rfl) (evd_var rfl tv) hc hri) (fun H5 j σ' H' => KpL H3 H' ∧ Tv K H' x (eL cc) ∧ σ'[3]? = some (some x) ∧ BxI P w K ns B kvs a D1 vw H H5 ((contents ns).take i) cc ((rowOf ns.length B kvs cc).take j) σ' H') (fun H5 e5 => ⟨k4.trans (.ex e5), tv.ex e5, rfl, some x, x4, x5, m, rfl, KpL.refl _, eH4.trans e5, hm.ex e5, hmn, hmk, hmc, fun y hy => by cases hy⟩) (fun H1 i σ' H' ⟨_, _, _, _, _, _, _, _, e, _⟩ => e.1) ?_ ?_
    · rintro H5 j d y σ' H6 e5 hd ⟨k36, tx, hx3, y3, y4, y5, m, rfl, k6, eH6, hm, hmn, hmk, hmc, hmr⟩ tv6
      have hx3' : y3 = some x := by simpa using hx3
      subst hx3'
      obtain ⟨q, hq, rfl⟩ := rowE_get hd
      have hqm := List.mem_of_getElem? hq
      have gp := pats_ok hcol.1 (Gd.row_pat q hqm)
      refine gvg_any tv6 fun u v hu hv => ?_
      have htk : (rowOf ns.length B kvs cc).take (j + 1) = (rowOf ns.length B kvs cc).take j ++ [q] := by rw [List.take_add_one, hq]; rfl
      have hw6 : Tv K H6 vw (eL (allC ns.length)) := Tv.kp ((Kp.ex (e2.trans e3)).trans k36.1) hw
      refine s_when (et_test (ev_eqT (neg := true) (evd_var rfl hu) (evd_var rfl hw6) (by rw [depth_eL]; decide) (by rw [depth_eL]; decide))) (fun hb H7 e7 => ?_) fun hb H7 e7 => ?_
      · have hne : q.1 ≠ allC ns.length := by
          have hb1 : (!decide (eL q.1 = eL (allC ns.length))) = true := hb
          rw [eL_dec] at hb1
          simpa using hb1
        have hx := (g.row_box (c := cc) hne).mp hqm
        have hbox : EvD K (tCall (spD K (fBox K)) [] EN (tCons (tVar 4) (tCons (tVar 3) tNil))) [some (.ref a), some vw, some (.ref D1), some x, some u, some v] H7 (eB (q.1, proj q.1 cc)) := evp_callD (ead_cons (evd_var rfl (hu.ex e7)) (ead_cons (evd_var rfl (tx.ex e7)) ead_nil)) ⟨q.1, cc, rfl, pat_in gp.1 hco.1, by omega, rfl⟩
        have hml : m.length ≤ kvs.length := by
          have h1 := nodup_len (nodup_of_keys hmn) fun x hx => (hmk x hx).1
          exact h1
        have hgl := g.len
        have hbl : (bK m).length < 100000 := by unfold bK; rw [List.length_map]; omega
        have cont : ∀ H8 m', ExB D1 H7 H8 → Kp H7 H8 → DW P w K H8 D1 (bK m') (bD B m') → (m'.map (·.1)).Nodup → (∀ x ∈ m', x ∈ kvs ∧ x.2 ≠ 0) → (∀ x ∈ m, x ∈ m') → ((q.1, proj q.1 cc), q.2) ∈ m' →
            KpL H3 H8 ∧ Tv K H8 x (eL cc) ∧ ([some (.ref a), some vw, some (.ref D1), some x, some u, some v] : L2.St)[3]? = some (some x) ∧ BxI P w K ns B kvs a D1 vw H H5 ((contents ns).take i) cc ((rowOf ns.length B kvs cc).take (j + 1)) [some (.ref a), some vw, some (.ref D1), some x, some u, some v] H8 := by
          intro H8 m' eb kp hm' hmn' hmk' hsub hin
          obtain ⟨φ, hφ⟩ := (hm.ex e7).some
          have kl : KpL H7 H8 := KpL.of hφ eb kp
          refine ⟨(k36.trans (.ex e7)).trans kl, (tx.ex e7).kp kp, rfl, some x, some u, some v, m', rfl, (k6.trans (.ex e7)).trans kl, ExB.ex fD1 ((ExB.of (eH6.trans e7)).trans eb), hm', hmn', hmk', fun d hd y hy hyn => hsub _ (hmc d hd y hy hyn), fun y hy hyn => ?_⟩
          rw [htk] at hy
          rcases List.mem_append.mp hy with hy | hy
          · exact hsub _ (hmr y hy hyn)
          · have : y = q := by simpa using hy
            rw [this]
            exact hin
        by_cases hin : ((q.1, proj q.1 cc), q.2) ∈ m
        · obtain ⟨jj, hj, ej⟩ := List.getElem_of_mem hin
          have hmj : m[jj]? = some ((q.1, proj q.1 cc), q.2) := by rw [List.getElem?_eq_getElem hj, ej]
          exact sp_putOld (hm.ex e7) (bK_nd hmn) (i := jj) (bK_at hmj) (bD_at hmj) (evd_var rfl (hv.ex e7)) (ev_var rfl) hbox (by rw [depth_eB]; decide) hbl fun H8 eb kp hm8 => cont H8 m eb kp hm8 hmn hmk (fun _ h => h) hin
        · have hnk : (q.1, proj q.1 cc) ∉ m.map (·.1) := fun h => by
            obtain ⟨z, hz, ez⟩ := List.mem_map.mp h
            have h1 := (hmk z hz).1
            have := key_one g.nd h1 hx.1 ez
            rw [this] at hz
            exact hin hz
          refine sp_putNew (hm.ex e7) (kk := [eL q.1, eL (proj q.1 cc)]) (fun h => hnk ?_) (evd_var rfl (hv.ex e7)) (ev_var rfl) hbox (by show (eB (q.1, proj q.1 cc)).depth ≤ 8; rw [depth_eB]; decide) hbl fun H8 eb kp hm8 => cont H8 (m ++ [((q.1, proj q.1 cc), q.2)]) eb kp ?_ ?_ ?_ (fun x hx => List.mem_append_left _ hx) (List.mem_append_right _ (by simp))
          · obtain ⟨z, hz, ez⟩ := List.mem_map.mp h
            exact List.mem_map.mpr ⟨z, hz, eB_inj ez⟩
          · show DW P w K H8 D1 ((m ++ [((q.1, proj q.1 cc), q.2)]).map fun x => eB x.1) ((m ++ [((q.1, proj q.1 cc), q.2)]).map fun x => eF (lw x.2 B))
            rw [List.map_append, List.map_append]
            exact hm8
          · rw [List.map_append]
            refine List.nodup_append.mpr ⟨hmn, by simp, fun x hx y hy e => hnk ?_⟩
            have : y = (q.1, proj q.1 cc) := by simpa using hy
            rw [← this, ← e]
            exact hx
          · intro x hx'
            rcases List.mem_append.mp hx' with h | h
            · exact hmk x h
            · have : x = ((q.1, proj q.1 cc), q.2) := by simpa using h
              rw [this]
              exact hx
      · have heq : q.1 = allC ns.length := by
          have hb1 : (!decide (eL q.1 = eL (allC ns.length))) = false := hb
          rw [eL_dec] at hb1
          simpa using hb1
        refine ⟨k36.trans (.ex e7), tx.ex e7, rfl, some x, some u, some v, m, rfl, k6.trans (.ex e7), eH6.trans e7, hm.ex e7, hmn, hmk, hmc, fun y hy hyn => ?_⟩
        rw [htk] at hy
        rcases List.mem_append.mp hy with hy | hy
        · exact hmr y hy hyn
        · have : y = q := by simpa using hy
          rw [this] at hyn
          exact absurd heq hyn
    · rintro H5 σ' H6 e5 ⟨k36, tx, hx3, y3, y4, y5, m, rfl, k6, eH6, hm, hmn, hmk, hmc, hmr⟩
      rw [rowE_len, List.take_length] at hmr
      refine ⟨y3, y4, y5, m, rfl, k36, eH6, hm, hmn, hmk, fun d hd y hy hyn => ?_, fun y hy => by cases hy⟩
      rw [List.take_add_one, hc] at hd
      rcases List.mem_append.mp hd with hd | hd
      · exact hmc d hd y hy hyn
      · have : d = cc := by simpa using hd
        rw [this] at hy ⊢
        exact hmr y hy hyn
  · rintro H3 σ' H4 e3 ⟨x3, x4, x5, m, rfl, k4, eH4, hm, hmn, hmk, hmc, _⟩
    rw [List.length_map, List.take_length] at hmc
    refine s_ret (ev_var rfl) fun H5 e5 => k _ _ (eH4.trans e5) ⟨D1, m, rfl, fD1, hm.ex e5, hmn, fun x => ⟨hmk x, fun hx => ?_⟩⟩
    obtain ⟨c, hc, y, hy, hyn, e⟩ := (g.told x).mpr hx
    rw [e]
    exact hmc c hc y hy hyn
theorem sc_box_shares : FnScope ["habit"] ["habit"] (defScope (top 49)) := ⟨rfl, rfl, rfl, by decide +kernel, rfl, by decide +kernel, by decide +kernel⟩
theorem fn_box_shares (D : Df K mg "box_shares" "box_shares" (top 49) ["habit"]) (T : Txt K mg aN aO tC tM) (G_check_fair : Fn P w K mg base "check_fair" 4 ["habit"] (spG (fHab P w K CH CR .non))) (G_raw_box_shares : Fn P w K mg base "raw_box_shares" 2 ["habit"] (spG (fBoxShares P w K CH CR))) :
    Fn P w K mg base "box_shares" 5 ["habit"] (spG (fBoxShares P w K CH CR)) := by
  refine D.fn fun f fd F => ?_
  refine F.ok sc_box_shares (fun vs H Q E h => by obtain ⟨R, ⟨a, C1, ns, B, kvs, rfl, _⟩, _⟩ := h; rfl) (fun cdv A outer s H vs Q E hr h => ?_)
  obtain ⟨R, ⟨a, C1, ns, B, kvs, rfl, hC, hH, g, rfl⟩, k⟩ := h
  refine ⟨_, (pss_cons (ps_expr (pe_callF G_check_fair (hr.mono (by decide)) (pa_cons (pv 0) pa_nil)))
      (pss_one (ps_ret (pe_callF G_raw_box_shares (hr.mono (by decide)) (pa_cons (pv 0) pa_nil))))), ?_⟩
  refine q_drop (fHab_call (ev_var rfl) hC hH g) fun H1 e1 => ?_
  refine sp_ret (P := fun v H2 => ∃ (b : Addr) (m : Bks), v = .ref b ∧ H1 b = none ∧ DW P w K H2 b (bK m) (bD B m) ∧ (m.map (·.1)).Nodup ∧ ∀ x, x ∈ m ↔ x ∈ kvs ∧ x.2 ≠ 0) ?_ fun v H2 e2 ⟨b, m, q1, q2, q3⟩ => k v H2 (e1.trans e2) ⟨b, m, q1, fresh_back e1 q2, q3⟩
  refine evp_call (F := fBoxShares P w K CH CR) (eap_cons (P := IsV (V.ref a)) (evp_v (ev_var rfl)) sty_V eap_nil) fun vs H2 e2 ⟨x, ws, q1, h1, q2⟩ => ?_
  cases h1
  exact ⟨_, ⟨a, C1, ns, B, kvs, by rw [q1, q2], hC, hH.ex (e1.trans e2), g, rfl⟩, fun v H3 e3 ⟨b, m, p1, p2, p3⟩ => ⟨b, m, p1, fresh_back e2 p2, p3⟩⟩
end
end FM
/-! The hand that the law draws from. -/
namespace FM
open PySem PySem.Spec PyProof.Rows L2 Evl
section
variable {K : PySem.W.Frag} {σ : L2.St} {H : Hp} {t : TT} {tu : TS} {D : Ends} {tz : TS}
/-- one if, and what follows it shown once -/
theorem q_whenJ {b : Bool} (M : L2.St → Hp → Prop) (h : EvT t σ H b) (k : ∀ σ' H', M σ' H' → tz D σ' H') (h1 : b = true → ∀ H1, Ex H H1 → (∀ σ' H', M σ' H' → tz D σ' H') → tu { D with nx := tz D } σ H1) (h2 : b = false → ∀ H1, Ex H H1 → M σ H1) : tSeq (tIfS t tu tNext) tz D σ H :=
  q_when h (fun hb H1 e => h1 hb H1 e k) fun hb H1 e => k σ H1 (h2 hb H1 e)
theorem q_setLx {ta tb te : TE} {l : Addr} {xs : List V} {v : V} {j : Nat} (hl : H l = some (.lst xs)) (h : Ev te σ H v) (ho : Ev ta σ H (.ref l)) (hi : Ev tb σ H (.int (j : Int))) (hj : j < xs.length) (k : ∀ H1, Ex H H1 → tz D σ (upd H1 l (.lst (xs.set j v)))) : tSeq (tAsg te (gSub ta tb rSetL)) tz D σ H :=
  s_setL (D := { D with nx := tz D }) hl h ho hi hj k
end
/-- the five places of a hand -/
abbrev hand5 (ca : Addr) (i d s c : Int) : List V := [.ref ca, .int i, .int d, .int s, .int c]
/-- a hand stands at h -/
def HandC (H : Hp) (h ca : Addr) : Prop := ∃ (cs : List Int) (i : Nat) (d s c : Int), H h = some (.lst (hand5 ca i d s c)) ∧ H ca = some (.lst (cs.map V.int)) ∧ ca ≠ h ∧ i ≤ cs.length ∧ cs.length ≤ 63 ∧ (∀ x ∈ cs, 0 ≤ x) ∧ 0 ≤ d
theorem HandC.ex {H H' : Hp} {h ca : Addr} (x : HandC H h ca) (e : Ex H H') : HandC H' h ca := let ⟨cs, i, d, s, c, h1, h2, r⟩ := x; ⟨cs, i, d, s, c, e _ _ h1, e _ _ h2, r⟩
theorem HandC.lst {H : Hp} {h ca : Addr} (x : HandC H h ca) : ∃ xs, H h = some (.lst xs) := let ⟨_, _, _, _, _, h1, _⟩ := x; ⟨_, h1⟩
theorem HandC.lst2 {H : Hp} {h ca : Addr} (x : HandC H h ca) : ∃ xs, H ca = some (.lst xs) := let ⟨_, _, _, _, _, _, h1, _⟩ := x; ⟨_, h1⟩
/-- another place is written -/
theorem HandC.upd {H : Hp} {h ca D : Addr} {o : HO} (x : HandC H h ca) (n1 : D ≠ h) (n2 : D ≠ ca) : HandC (upd H D o) h ca := let ⟨cs, i, d, s, c, h1, h2, r⟩ := x; ⟨cs, i, d, s, c, by rw [upd_ne (Ne.symm n1)]; exact h1, by rw [upd_ne (Ne.symm n2)]; exact h2, r⟩
/-- another object is changed -/
theorem HandC.exB {H H' : Hp} {h ca D : Addr} {φ : Heap → Prop} (x : HandC H h ca) (hD : H D = some (.ext φ)) (e : ExB D H H') : HandC H' h ca := by
  obtain ⟨cs, i, d, s, c, h1, h2, r⟩ := x
  refine ⟨cs, i, d, s, c, e _ _ (fun z => ?_) h1, e _ _ (fun z => ?_) h2, r⟩
  · subst z
    rw [h1] at hD
    cases hD
  · subst z
    rw [h2] at hD
    cases hD
theorem kp_lst {H H' : Hp} {a : Addr} {xs : List V} (h : H a = some (.lst xs)) (e : ExB a H H') : Kp H H' := fun b ys r => by
  have ne : b ≠ a := fun z => nrd_lst h ys (z ▸ r)
  rcases r with r | ⟨o, r⟩
  · exact .inl (e _ _ ne r)
  · exact .inr ⟨o, e _ _ ne r⟩
theorem ev_hx {K : PySem.W.Frag} {σ : L2.St} {H : Hp} {ta : TE} {h : Addr} {xs : List V} {v : V} {j : Nat} (hH : H h = some (.lst xs)) (ha : Ev ta σ H (.ref h)) (hj : xs[j]? = some v) : Ev (tOp (rIxL K) ta (L2.tC (.int (j : Int)))) σ H v := ev_op ha ev_c (rv_ixL (sq_of hH) (atI_nat hj))
/-- what a drawing promises: the hand changes, nothing else that is there -/
def spDraw (Ok : List V → Hp → Prop) (R : List V → VP) : Sp := fun vs H Q _ => ∃ (h ca : Addr) (ws : List V), vs = .ref h :: ws ∧ HandC H h ca ∧ Ok ws H ∧ ∀ v H', ExB h H H' → HandC H' h ca → R ws v H' → Q v H'
def okDraw : List V → Hp → Prop := fun ws _ => ∃ m : Nat, ws = [.int (m : Int)] ∧ 0 < m ∧ m < 1000000
def rDraw : List V → VP := fun ws v _ => ∃ m r : Nat, ws = [.int (m : Int)] ∧ v = .int (r : Int) ∧ r < m
section
variable {P : Program} {w : World} {K : PySem.W.Frag} {mg : Str → Option Value} {base : Heap} {aN aO : Addr} {tC tM : Tok}
theorem sc__law_draw : FnScope ["_law_hand_here", "_law_many", "_law_cell", "_law_digit", "_law_number"] ["_law_hand_here", "_law_many"] (defScope (top 56)) := ⟨rfl, rfl, rfl, by decide +kernel, rfl, by decide +kernel, by decide +kernel⟩
theorem int_mod {a : Int} {m : Nat} (hm : 0 < m) : ∃ r : Nat, a % (m : Int) = (r : Int) ∧ r < m := by
  have h1 := Int.emod_nonneg a (show (m : Int) ≠ 0 by omega)
  have h2 := Int.emod_lt_of_pos a (show (0 : Int) < m by omega)
  exact ⟨(a % (m : Int)).toNat, by omega, by omega⟩
theorem fn__law_draw (D : Df K mg "_law_draw" "_law_draw" (top 56) ["_law_hand_here", "_law_many"]) (T : Txt K mg aN aO tC tM) : Fn P w K mg base "_law_draw" 1 ["_law_hand_here", "_law_many"] (spDraw okDraw rDraw) := by
  refine D.fn fun f fd F => ?_
  refine F.ok sc__law_draw (fun vs H Q E h => by obtain ⟨h, ca, ws, rfl, _, ⟨m, rfl, _⟩, _⟩ := h; rfl) (fun cdv A outer s H vs Q E hr h => ?_)
  obtain ⟨h, ca, ws, rfl, hh, ⟨m, rfl, hm0, hm1⟩, k⟩ := h
  have hu64 := hr.units
  refine ⟨_, (pss_cons (ps_if (pw_and (pt_cmpR op_eq (pe_ix (r := rIxL K) ix_list (pv 0) pe_int (fun _ _ => rfl)) pe_int (nomark _)) (pw_and1 (pt_cmpR op_lt (pe_ix (r := rIxL K) ix_list (pv 0) pe_int (fun _ _ => rfl)) (pe_callB (r := rLenS K) call_len_seq (by rfl) T.len boot_len (pa_cons (pe_ix (r := rIxL K) ix_list (pv 0) pe_int (fun _ _ => rfl)) pa_nil)) (nomark _)))).pt (pss_cons (ps_set (i := 2) sc__law_draw.nd rfl (.inl rfl) (pe_ix (r := rIxL K) ix_list (pe_ix (r := rIxL K) ix_list (pv 0) pe_int (fun _ _ => rfl)) (pe_ix (r := rIxL K) ix_list (pv 0) pe_int (fun _ _ => rfl)) (fun _ _ => rfl)))
        (pss_cons (ps_asg (pe_op op_add (pe_ix (r := rIxL K) ix_list (pv 0) pe_int (fun _ _ => rfl)) pe_int) (pg_sub (pv 0) pe_int set_list (fun _ => rfl)))
        (pss_cons (ps_asg (pe_op op_mod (pe_callTy call_int1 (by rfl) T.int boot_int (pa_cons (pe_op op_add (pe_op op_add (pe_op op_mul (pe_ix (r := rIxL K) ix_list (pv 0) pe_int (fun _ _ => rfl)) pe_int) (pv 2)) pe_int) pa_nil)) pe_int) (pg_sub (pv 0) pe_int set_list (fun _ => rfl)))
        (pss_one (ps_if (pt_cmpR op_ge (pv 2) (pe_op op_pow pe_int pe_int) (nomark _)) (pss_one (ps_asg (pv 2) (pg_sub (pv 0) pe_int set_list (fun _ => rfl)))) pss_nil))))) pss_nil)
      (pss_cons (ps_if (pt_cmpR op_gt (pe_ix (r := rIxL K) ix_list (pv 0) pe_int (fun _ _ => rfl)) pe_int (nomark _)) (pss_cons (ps_set (i := 3) sc__law_draw.nd rfl (.inl rfl) (pe_op op_mod (pe_callTy call_int1 (by rfl) T.int boot_int (pa_cons (pe_ix (r := rIxL K) ix_list (pv 0) pe_int (fun _ _ => rfl)) pa_nil)) (pv 1)))
        (pss_cons (ps_asg (pe_op op_fdiv (pe_ix (r := rIxL K) ix_list (pv 0) pe_int (fun _ _ => rfl)) (pv 1)) (pg_sub (pv 0) pe_int set_list (fun _ => rfl)))
        (pss_one (ps_ret (pv 3))))) pss_nil)
      (pss_cons (ps_asg (pe_op op_add (pe_ix (r := rIxL K) ix_list (pv 0) pe_int (fun _ _ => rfl)) pe_int) (pg_sub (pv 0) pe_int set_list (fun _ => rfl)))
      (pss_cons (ps_set (i := 4) sc__law_draw.nd rfl (.inl rfl) (pe_op op_mod (pe_callTy call_int1 (by rfl) T.int boot_int (pa_cons (pe_op op_mul (pe_callTy call_int1 (by rfl) T.int boot_int (pa_cons (pe_op op_add (pe_ix (r := rIxL K) ix_list (pv 0) pe_int (fun _ _ => rfl)) (pe_op op_mul pe_int (pe_ix (r := rIxL K) ix_list (pv 0) pe_int (fun _ _ => rfl)))) pa_nil)) pe_int) pa_nil)) pe_int))
      (pss_cons (ps_set (i := 4) sc__law_draw.nd rfl (.inl rfl) (pe_op op_mod (pe_callTy call_int1 (by rfl) T.int boot_int (pa_cons (pe_op op_mul (pv 4) (pe_op op_add (pe_op op_fdiv (pv 4) pe_int) pe_int)) pa_nil)) pe_int))
      (pss_cons (ps_set (i := 4) sc__law_draw.nd rfl (.inl rfl) (pe_op op_mod (pe_callTy call_int1 (by rfl) T.int boot_int (pa_cons (pe_op op_mul (pv 4) (pe_op op_add (pe_op op_fdiv (pv 4) pe_int) pe_int)) pa_nil)) pe_int))
      (pss_one (ps_ret (pe_op op_mod (pe_callTy call_int1 (by rfl) T.int boot_int (pa_cons (pe_op op_fdiv (pv 4) pe_int) pa_nil)) (pv 1)))))))))), ?_⟩
  have k' : ∀ (r : Nat) H', r < m → ExB h H H' → HandC H' h ca → Q (.int (r : Int)) H' := fun r H' hr e hh => k _ H' e hh ⟨m, r, rfl, rfl, hr⟩
  obtain ⟨cs, i, d, sd, c, h1, h2, nch, hi, hcl, hcs, hd⟩ := hh
  have hx : ∀ {H'} {σ : L2.St} {x : List V} {v : V} (j : Nat), H' h = some (.lst x) → σ[0]? = some (some (.ref h)) → x[j]? = some v → Ev (tOp (rIxL K) (tVar 0) (L2.tC (.int (j : Int)))) σ H' v := fun j hH hσ hj => ev_hx hH (ev_var hσ) hj
  have hlen : Ev (tCB (rLenS K) (tCons (tOp (rIxL K) (tVar 0) (L2.tC (.int 0))) tNil)) (start ["_law_hand_here", "_law_many", "_law_cell", "_law_digit", "_law_number"] [.ref h, .int (m : Int)]) H (.int (cs.length : Int)) := Ev.castI (ev_len (hx 0 h1 rfl rfl) (sq_of h2)) (by rw [List.length_map])
  -- a new cell, where none is under way
  refine q_whenJ (fun σ' H' => ∃ (x2 : Option V) (i : Nat) (d sd c : Int), σ' = [some (.ref h), some (.int (m : Int)), x2, none, none] ∧ ExB h H H' ∧ H' h = some (.lst (hand5 ca i d sd c)) ∧ i ≤ cs.length ∧ 0 ≤ d)
    (et_and (et_test (ev_op (hx 2 h1 rfl rfl) ev_c (rv_eq rfl))) fun _ => et_test (ev_op (hx 1 h1 rfl rfl) hlen rv_I0)) ?_ (fun hb H1 e1 kk => ?_) fun hb H1 e1 => ⟨none, i, d, sd, c, rfl, .of e1, e1 _ _ h1, hi, hd⟩
  · rintro σ' H1 ⟨x2, i, d, sd, c, rfl, eb, g1, gi, gd⟩
    have g2 : H1 ca = some (.lst (cs.map V.int)) := eb _ _ nch h2
    have keep : ∀ {H'} (i : Nat) (d sd c : Int), ExB h H H' → H' h = some (.lst (hand5 ca i d sd c)) → i ≤ cs.length → 0 ≤ d → HandC H' h ca := fun i d sd c e z zi zd => ⟨cs, i, d, sd, c, z, e _ _ nch h2, nch, zi, hcl, hcs, zd⟩
    refine q_when (et_test (ev_op (hx 2 g1 rfl rfl) ev_c rv_I0)) (fun hb H2 e2 => ?_) fun hb H2 e2 => ?_
    · -- a digit of the cell under way
      have g1' := e2 _ _ g1
      refine q_asg (ev_op (ev_int1 (hx 2 g1' rfl rfl)) (ev_var rfl) (rv_I (by omega))) fun H3 e3 => ?_
      have g1'' := e3 _ _ g1'
      refine q_setLx g1'' (ev_op (hx 2 g1'' rfl rfl) (ev_var rfl) (rv_I ⟨by omega, by omega⟩)) (ev_var rfl) (ev_c (v := .int ((2 : Nat) : Int))) (by show 2 < 5; decide) fun H4 e4 => ?_
      obtain ⟨r, er, hr'⟩ := int_mod (a := d) hm0
      refine s_ret (v := .int (r : Int)) (Ev.castI (ev_var rfl) er) fun H5 e5 => k' r H5 hr' ?_ ?_
      · exact (((eb.trans (.of e2)).trans (.of e3)).trans (.of e4)).trans (ExB.upd.trans (.of e5))
      · exact keep i (d / m) sd c ((((eb.trans (.of e2)).trans (.of e3)).trans (.of e4)).trans (ExB.upd.trans (.of e5))) (e5 _ _ upd_same) gi (Int.ediv_nonneg gd (by omega))
    · -- no cell left: a number made of the seed
      have g1' := e2 _ _ g1
      refine q_setLx g1' (ev_op (hx 4 g1' rfl rfl) ev_c rv_I0) (ev_var rfl) (ev_c (v := .int ((4 : Nat) : Int))) (by show 4 < 5; decide) fun H3 e3 => ?_
      have eb3 : ExB h H (upd H3 h (.lst ((hand5 ca i d sd c).set 4 (.int (c + 1))))) := ((eb.trans (.of e2)).trans (.of e3)).trans ExB.upd
      have q1 : (upd H3 h (.lst ((hand5 ca i d sd c).set 4 (.int (c + 1))))) h = some (.lst (hand5 ca i d sd (c + 1))) := upd_same
      generalize upd H3 h (.lst ((hand5 ca i d sd c).set 4 (.int (c + 1)))) = H4 at eb3 q1
      refine q_asg (ev_op (ev_int1 (ev_op (ev_int1 (ev_op (hx 3 q1 rfl rfl) (ev_op ev_c (hx 4 q1 rfl rfl) (rv_I (.inl ⟨by decide, by decide⟩))) rv_I0)) ev_c (rv_I (.inr ⟨by decide, by decide⟩)))) ev_c (rv_I (by decide))) fun H5 e5 => ?_
      obtain ⟨n1, en1, hn1⟩ := int_mod (a := (sd + 7919 * (c + 1)) * 48271) (m := 2147483647) (by decide)
      have en1' : (sd + 7919 * (c + 1)) * 48271 % 2147483647 = (n1 : Int) := en1
      rw [en1']
      refine q_asg (ev_op (ev_int1 (ev_op (ev_var rfl) (ev_op (ev_op (ev_var rfl) ev_c (rv_I ⟨by decide, by decide⟩)) ev_c rv_I0) (rv_I (.inl ⟨by omega, by omega⟩)))) ev_c (rv_I (by decide))) fun H6 e6 => ?_
      obtain ⟨n2, en2, hn2⟩ := int_mod (a := (n1 : Int) * ((n1 : Int) / 1009 + 69621)) (m := 2147483647) (by decide)
      have en2' : (n1 : Int) * ((n1 : Int) / 1009 + 69621) % 2147483647 = (n2 : Int) := en2
      rw [en2']
      refine q_asg (ev_op (ev_int1 (ev_op (ev_var rfl) (ev_op (ev_op (ev_var rfl) ev_c (rv_I ⟨by decide, by decide⟩)) ev_c rv_I0) (rv_I (.inl ⟨by omega, by omega⟩)))) ev_c (rv_I (by decide))) fun H7 e7 => ?_
      obtain ⟨n3, en3, hn3⟩ := int_mod (a := (n2 : Int) * ((n2 : Int) / 2003 + 40692)) (m := 2147483399) (by decide)
      have en3' : (n2 : Int) * ((n2 : Int) / 2003 + 40692) % 2147483399 = (n3 : Int) := en3
      rw [en3']
      obtain ⟨r, er, hr'⟩ := int_mod (a := (n3 : Int) / 16) hm0
      refine s_ret (v := .int (r : Int)) (Ev.castI (ev_op (ev_int1 (ev_op (ev_var rfl) ev_c (rv_I ⟨by decide, by decide⟩))) (ev_var rfl) (rv_I (by omega))) er) fun H8 e8 => k' r H8 hr' ?_ ?_
      · exact eb3.trans (.of (((e5.trans e6).trans e7).trans e8))
      · exact keep i d sd (c + 1) (eb3.trans (.of (((e5.trans e6).trans e7).trans e8))) ((((e5.trans e6).trans e7).trans e8) _ _ q1) gi gd
  · -- the cell is taken
    have hb' : i < cs.length := by
      rw [Bool.and_eq_true] at hb
      have := of_decide_eq_true hb.2
      omega
    obtain ⟨x, hx0⟩ : ∃ x, cs[i]? = some x := ⟨cs[i], List.getElem?_eq_getElem hb'⟩
    have hx1 := hcs x (List.mem_of_getElem? hx0)
    have g1 := e1 _ _ h1
    have g2 := e1 _ _ h2
    have hcell : Ev (tOp (rIxL K) (tOp (rIxL K) (tVar 0) (L2.tC (.int 0))) (tOp (rIxL K) (tVar 0) (L2.tC (.int 1)))) (start ["_law_hand_here", "_law_many", "_law_cell", "_law_digit", "_law_number"] [.ref h, .int (m : Int)]) H1 (.int x) := ev_op (hx 0 g1 rfl rfl) (hx 1 g1 rfl rfl) (rv_ixL (sq_of g2) (atI_nat (by rw [List.getElem?_map, hx0]; rfl)))
    refine q_asg hcell fun H2 e2 => ?_
    have g1' := e2 _ _ g1
    refine q_setLx g1' (ev_op (hx 1 g1' rfl rfl) ev_c rv_I0) (ev_var rfl) (ev_c (v := .int ((1 : Nat) : Int))) (by show 1 < 5; decide) fun H3 e3 => ?_
    have eb3 : ExB h H (upd H3 h (.lst ((hand5 ca i d sd c).set 1 (.int ((i : Int) + 1))))) := (((ExB.of e1).trans (.of e2)).trans (.of e3)).trans ExB.upd
    have q1 : (upd H3 h (.lst ((hand5 ca i d sd c).set 1 (.int ((i : Int) + 1))))) h = some (.lst (hand5 ca ((i + 1 : Nat) : Int) d sd c)) := upd_same
    generalize upd H3 h (.lst ((hand5 ca i d sd c).set 1 (.int ((i : Int) + 1)))) = H4 at eb3 q1
    refine q_setLx q1 (ev_op (ev_int1 (ev_op (ev_op (ev_op (hx 3 q1 rfl rfl) ev_c (rv_I (.inr ⟨by decide, by decide⟩))) (ev_var rfl) rv_I0) ev_c rv_I0)) ev_c (rv_I (by decide))) (ev_var rfl) (ev_c (v := .int ((3 : Nat) : Int))) (by show 3 < 5; decide) fun H5 e5 => ?_
    generalize (sd * 69621 + x + 11) % 2147483629 = sd'
    have eb6 : ExB h H (upd H5 h (.lst ((hand5 ca ((i + 1 : Nat) : Int) d sd c).set 3 (.int sd')))) := (eb3.trans (.of e5)).trans ExB.upd
    have q2 : (upd H5 h (.lst ((hand5 ca ((i + 1 : Nat) : Int) d sd c).set 3 (.int sd')))) h = some (.lst (hand5 ca ((i + 1 : Nat) : Int) d sd' c)) := upd_same
    generalize upd H5 h (.lst ((hand5 ca ((i + 1 : Nat) : Int) d sd c).set 3 (.int sd'))) = H6 at eb6 q2
    refine s_when (et_test (ev_op (ev_var rfl) (ev_op ev_c ev_c (rv_I ⟨by decide, by decide, by decide⟩)) rv_I0)) (fun hb H7 e7 => ?_) fun hb H7 e7 => ?_
    · have q3 := e7 _ _ q2
      refine s_setL q3 (ev_var rfl) (ev_var rfl) (ev_c (v := .int ((2 : Nat) : Int))) (by show 2 < 5; decide) fun H8 e8 => kk _ _ ⟨some (.int x), i + 1, x, sd', c, rfl, ?_, upd_same, hb', hx1⟩
      exact ((eb6.trans (.of e7)).trans (.of e8)).trans ExB.upd
    · exact kk _ _ ⟨some (.int x), i + 1, d, sd', c, rfl, eb6.trans (.of e7), e7 _ _ q2, hb', hd⟩
end
end FM
/-! The hand made; one of some; sizes. -/
namespace FM
open PySem PySem.Spec PyProof.Rows L2 Evl
theorem cut_ints (ns : List Int) (lo hi : Option Int) : ∃ ms : List Int, cutV (ns.map V.int) lo hi = ms.map V.int ∧ ms.length ≤ ns.length := by
  refine ⟨(ns.drop (HT.sIx (ns.map V.int).length 0 lo)).take (HT.sIx (ns.map V.int).length (ns.map V.int).length hi - HT.sIx (ns.map V.int).length 0 lo), ?_, ?_⟩
  · unfold cutV
    rw [List.map_take, List.map_drop]
  · rw [List.length_take, List.length_drop]
    omega
section
variable {P : Program} {w : World} {K : PySem.W.Frag} {mg : Str → Option Value} {base : Heap} {aN aO : Addr} {tC tM : Tok}
theorem sc__law_hand : FnScope ["_law_script", "_law_cells", "_law_cell"] ["_law_script"] (defScope (top 55)) := ⟨rfl, rfl, rfl, by decide +kernel, rfl, by decide +kernel, by decide +kernel⟩
def fHand (K : PySem.W.Frag) : List V → Hp → VP → Prop := fun vs H R => ∃ (a : Addr) (ns : List Int), vs = [.ref a] ∧ SqL K H a (ns.map V.int) ∧ ns.length ≤ 63 ∧ R = fun v H2 => ∃ h ca, v = .ref h ∧ H h = none ∧ HandC H2 h ca
theorem fn__law_hand (D : Df K mg "_law_hand" "_law_hand" (top 55) ["_law_script"]) (T : Txt K mg aN aO tC tM) : Fn P w K mg base "_law_hand" 1 ["_law_script"] (spG (fHand K)) := by
  refine D.fn fun f fd F => ?_
  refine F.ok sc__law_hand (fun vs H Q E h => by obtain ⟨R, ⟨a, ns, rfl, _⟩, _⟩ := h; rfl) (fun cdv A outer s H vs Q E hr h => ?_)
  obtain ⟨R, ⟨a, ns, rfl, ha, hl, rfl⟩, k⟩ := h
  have hu64 := hr.units
  refine ⟨_, (pss_cons (ps_setLc (i := 1) (own := [(("_law_cell" : Str), 2)]) (g := gName 2) (tt := tYes) rfl sc__law_hand.nd rfl rfl (sw_true rfl rfl rfl rfl) (pi_list (pe_slice sl_list (pv 0) po_none (po_some pe_int))) (blkOk_by (own := [(("_law_cell" : Str), 2)]) (N := ["_law_script", "_law_cells", "_law_cell"]) (sc := defScope (top 55)) (by decide +kernel)) (fun _ _ _ _ _ => (pg_name (i := 2) sc__law_hand.nd rfl (.inl rfl))) (fun _ _ _ _ _ => pts_nil) (fun _ _ _ _ _ => (pe_callB call_abs (by rfl) T.abs boot_abs (pa_cons (pe_callTy call_int1 (by rfl) T.int boot_int (pa_cons (pv 2) pa_nil)) pa_nil))))
      (pss_one (ps_ret (pe_lst (pa_cons (pv 1) (pa_cons pe_int (pa_cons pe_int (pa_cons (pe_op op_add pe_int (pe_callB (r := rLenS K) call_len_seq (by rfl) T.len boot_len (pa_cons (pv 1) pa_nil))) (pa_cons pe_int pa_nil))))))))), ?_⟩
  obtain ⟨ms, hms, hml⟩ := cut_ints ns none (some 63)
  have hsl : EvL (tSl (rSlL K) (tVar 0) tNoPart (tPart (L2.tC (.int 63)))) (start ["_law_script", "_law_cells", "_law_cell"] [.ref a]) H (ms.map V.int) := hms ▸ el_sl (ev_var rfl) eo_none (eo_some ev_c) ha
  have hL := evp_lc (σ := start ["_law_script", "_law_cells", "_law_cell"] [.ref a]) (H := H) (wi := iList K (tSl (rSlL K) (tVar 0) tNoPart (tPart (L2.tC (.int 63))))) (g := gName 2) (tt := tYes) (te := tCB (fun xs H Q => ∃ i, xs = [V.int i] ∧ Q (.int (if i < 0 then -i else i)) H) (tCons (tCB (fun xs H Q => (∃ i, xs = [V.int i] ∧ Q (.int i) H) ∨ ∃ k, xs = [V.bl k] ∧ Q (.int (if k then 1 else 0)) H) (tCons (tVar 2) tNil)) tNil)) (vs := [2]) (n := ms.length) (Y := fun i v _ => ∃ z, ms[i]? = some z ∧ v = .int z) (fun _ => true) (fun i v _ => ∃ z : Nat, v = .int (z : Int)) (fun i v H H' _ h => h)
    (evi_list (fun H1 e Q q => hsl H1 e _ fun p H2 _ e2 hp => q _ _ e2 ⟨p, ms.map V.int, rfl, sq_of hp, by rw [List.length_map], fun i x H3 _ hx => by
      rw [List.getElem?_map] at hx
      obtain ⟨z, hz, rfl⟩ := Option.map_eq_some_iff.mp hx
      exact ⟨z, hz, rfl⟩⟩)) (by omega) (fun i x H1 hi e ⟨z, hz, ex⟩ => by
        subst ex
        exact gvg_name ⟨rfl, et_yes, fun _ => .of (ev_abs (ev_int1 (ev_var rfl))) fun H2 _ => ⟨_, rfl⟩⟩)
  refine qp_asg hL fun v H1 e1 ⟨l, ys, ev, hy, hp⟩ => ?_
  subst ev
  have hints : ∃ cs : List Int, ys = cs.map V.int ∧ (∀ x ∈ cs, 0 ≤ x) := by
    unfold LP at hp
    revert hp
    generalize (List.range ms.length).filter (fun _ => true) = is
    intro hp
    clear hy
    induction hp with
    | nil => exact ⟨[], rfl, fun x hx => by cases hx⟩
    | cons h t ih =>
      obtain ⟨z, rfl⟩ := h
      obtain ⟨cs, rfl, hc⟩ := ih
      exact ⟨(z : Int) :: cs, rfl, fun x hx => by
        rcases List.mem_cons.mp hx with e | hx
        · omega
        · exact hc x hx⟩
  obtain ⟨cs, rfl, hcs⟩ := hints
  have hcl : cs.length ≤ 63 := by
    have := hp.len
    rw [List.length_map] at this
    omega
  have hA : EvA (tCons (tVar 1) (tCons (L2.tC (.int 0)) (tCons (L2.tC (.int 0)) (tCons (tOp (rI0 fun i j => .int (i + j)) (L2.tC (.int 1)) (tCB (rLenS K) (tCons (tVar 1) tNil))) (tCons (L2.tC (.int 0)) tNil))))) [some (.ref a), some (.ref l), none] H1 (hand5 l 0 0 (1 + ((cs.map V.int).length : Int)) 0) :=
    ea_cons (ev_var rfl) (ea_cons ev_c (ea_cons ev_c (ea_cons (ev_op ev_c (ev_len (ev_var rfl) (sq_of hy)) rv_I0) (ea_cons ev_c ea_nil))))
  refine s_retL (el_lst hA (by show 5 ≤ 100000; decide)) fun p H2 fp e2 hp2 => k _ _ (e1.trans e2) ⟨p, l, rfl, fresh_back e1 fp, cs, 0, 0, _, 0, hp2, e2 _ _ hy, ?_, Nat.zero_le _, hcl, hcs, by decide⟩
  intro z
  subst z
  rw [hy] at fp
  cases fp
theorem sc__law_some : FnScope ["_law_hand_here", "_law_things"] ["_law_hand_here", "_law_things"] (defScope (top 57)) := ⟨rfl, rfl, rfl, by decide +kernel, rfl, by decide +kernel, by decide +kernel⟩
/-- a list of values stands, not the hand -/
def okSome : List V → Hp → Prop := fun ws H => ∃ (l : Addr) (xs : List V), ws = [.ref l] ∧ H l = some (.lst xs) ∧ 0 < xs.length ∧ xs.length < 100000
def rSome (l : Addr) (xs : List V) : VP := fun v _ => v ∈ xs
/-- one of some -/
def spSome : Sp := fun vs H Q _ => ∃ (h ca l : Addr) (xs : List V), vs = [.ref h, .ref l] ∧ HandC H h ca ∧ l ≠ h ∧ H l = some (.lst xs) ∧ 0 < xs.length ∧ xs.length < 100000 ∧ ∀ (i : Nat) v H', xs[i]? = some v → ExB h H H' → HandC H' h ca → Q v H'
theorem fn__law_some (D : Df K mg "_law_some" "_law_some" (top 57) ["_law_hand_here", "_law_things"]) (T : Txt K mg aN aO tC tM) (G__law_draw : Fn P w K mg base "_law_draw" 1 ["_law_hand_here", "_law_many"] (spDraw okDraw rDraw)) : Fn P w K mg base "_law_some" 2 ["_law_hand_here", "_law_things"] spSome := by
  refine D.fn fun f fd F => ?_
  refine F.ok sc__law_some (fun vs H Q E h => by obtain ⟨h, ca, l, xs, rfl, _⟩ := h; rfl) (fun cdv A outer s H vs Q E hr h => ?_)
  obtain ⟨h, ca, l, xs, rfl, hh, nlh, hl, h0, h1, k⟩ := h
  have hu64 := hr.units
  refine ⟨_, (pss_one (ps_ret (pe_ix (r := rIxL K) ix_list (pv 1) (pe_callF G__law_draw (hr.mono (by decide)) (pa_cons (pv 0) (pa_cons (pe_callB (r := rLenS K) call_len_seq (by rfl) T.len boot_len (pa_cons (pv 1) pa_nil)) pa_nil))) (fun _ _ => rfl)))), ?_⟩
  refine ⟨.ref l, rfl, .ref h, rfl, .ref l, rfl, l, xs, rfl, .inl (sq_of hl), h, ca, _, rfl, hh, ⟨xs.length, rfl, h0, by omega⟩, fun v H' eb hh' ⟨m, r, em, er, hr'⟩ => ?_⟩
  subst er
  have em' : xs.length = m := by
    have := V.int.inj (List.cons.inj em).1
    omega
  have hl' := eb _ _ nlh hl
  have hx : xs[r]? = some (xs[r]'(by omega)) := List.getElem?_eq_getElem _
  exact ⟨l, xs, (r : Int), _, rfl, rfl, sq_of hl', atI_nat hx, k r _ H' hx eb hh'⟩
theorem sc__law_sizes : FnScope ["_law_hand_here"] ["_law_hand_here"] (defScope (top 58)) := ⟨rfl, rfl, rfl, by decide +kernel, rfl, by decide +kernel, by decide +kernel⟩
def spSizes (K : PySem.W.Frag) : Sp := fun vs H Q _ => ∃ (h ca : Addr), vs = [.ref h] ∧ HandC H h ca ∧ ∀ v (ns : List Nat) H', ns ∈ allSizes → Tv K H' v (eL (zL ns)) → ExB h H H' → HandC H' h ca → Q v H'
/-- one of a written list of data -/
theorem some_of {σ : L2.St} {H : Hp} {ta : TA} {ds : List NestedKey} {h ca : Addr} {Q : VK} (hσ : σ[0]? = some (some (.ref h))) (hh : HandC H h ca) (hd : EaD K ta σ H ds) (h0 : 0 < ds.length) (h1 : ds.length < 100000)
    (k : ∀ v d H', d ∈ ds → Tv K H' v d → ExB h H H' → HandC H' h ca → Q v H') : tCall spSome [] EN (tCons (tVar 0) (tCons (tLst ta) tNil)) σ H Q := by
  refine ⟨.ref h, hσ, ?_⟩
  refine hd H (Ex.refl H) _ fun ys H1 e1 ty => ⟨by rw [ty.length]; exact sz_of (by omega), fun l hl => ?_⟩
  have e2 : Ex H1 (upd H1 l (.lst ys)) := Ex.new hl
  have hh1 := hh.ex e1
  have hyl := ty.length
  obtain ⟨zs, hzs⟩ := hh1.lst
  have nlh : l ≠ h := fun z => by
    subst z
    rw [hzs] at hl
    cases hl
  refine ⟨h, ca, l, ys, rfl, hh1.ex e2, nlh, upd_same, by omega, by omega, fun i v H' hv eb hh' => ?_⟩
  obtain ⟨d, hd', tv⟩ := ty.get hv
  exact k v d H' (List.mem_of_getElem? hd') ((tv.ex e2).kp (kp_lst (e2 _ _ hzs) eb)) ((ExB.of (e1.trans e2)).trans eb) hh'
theorem fn__law_sizes (D : Df K mg "_law_sizes" "_law_sizes" (top 58) ["_law_hand_here"]) (T : Txt K mg aN aO tC tM) (G__law_draw : Fn P w K mg base "_law_draw" 1 ["_law_hand_here", "_law_many"] (spDraw okDraw rDraw)) (G__law_some : Fn P w K mg base "_law_some" 2 ["_law_hand_here", "_law_things"] spSome) :
    Fn P w K mg base "_law_sizes" 3 ["_law_hand_here"] (spSizes K) := by
  refine D.fn fun f fd F => ?_
  refine F.ok sc__law_sizes (fun vs H Q E h => by obtain ⟨h, ca, rfl, _⟩ := h; rfl) (fun cdv A outer s H vs Q E hr h => ?_)
  obtain ⟨h, ca, rfl, hh, k⟩ := h
  have hu64 := hr.units
  refine ⟨_, (pss_cons (ps_if (pt_cmpR op_eq (pe_callF G__law_draw (hr.mono (by decide)) (pa_cons (pv 0) (pa_cons pe_int pa_nil))) pe_int (nomark _)) (pss_one (ps_ret (pe_callF G__law_some (hr.mono (by decide)) (pa_cons (pv 0) (pa_cons (pe_lst (pa_cons (pe_tup (pa_cons pe_int (pa_cons pe_int (pa_cons pe_int (pa_cons pe_int (pa_cons pe_int pa_nil)))))) (pa_cons (pe_tup (pa_cons pe_int (pa_cons pe_int pa_nil))) (pa_cons (pe_tup (pa_cons pe_int (pa_cons pe_int (pa_cons pe_int pa_nil)))) (pa_cons (pe_tup (pa_cons pe_int (pa_cons pe_int (pa_cons pe_int (pa_cons pe_int pa_nil))))) (pa_cons (pe_tup (pa_cons pe_int (pa_cons pe_int (pa_cons pe_int pa_nil)))) pa_nil)))))) pa_nil))))) pss_nil)
      (pss_one (ps_ret (pe_callF G__law_some (hr.mono (by decide)) (pa_cons (pv 0) (pa_cons (pe_lst (pa_cons (pe_tup (pa_cons pe_int (pa_cons pe_int (pa_cons pe_int pa_nil)))) (pa_cons (pe_tup (pa_cons pe_int (pa_cons pe_int (pa_cons pe_int pa_nil)))) (pa_cons (pe_tup (pa_cons pe_int (pa_cons pe_int (pa_cons pe_int pa_nil)))) (pa_cons (pe_tup (pa_cons pe_int (pa_cons pe_int pa_nil))) (pa_cons (pe_tup (pa_cons pe_int (pa_cons pe_int pa_nil))) (pa_cons (pe_tup (pa_cons pe_int (pa_cons pe_int (pa_cons pe_int pa_nil)))) (pa_cons (pe_tup (pa_cons pe_int pa_nil)) (pa_cons (pe_tup (pa_cons pe_int (pa_cons pe_int (pa_cons pe_int (pa_cons pe_int pa_nil))))) (pa_cons (pe_tup (pa_cons pe_int pa_nil)) pa_nil)))))))))) pa_nil)))))), ?_⟩
  -- the draw
  refine ⟨.ref h, rfl, h, ca, _, rfl, hh, ⟨12, rfl, by decide, by decide⟩, fun v H1 eb hh1 ⟨m, r, em, er, hr'⟩ => ?_⟩
  subst er
  refine ⟨rfl, _, rfl, ?_⟩
  dsimp only
  have key : ∀ (L : List (List Nat)) (v : V) (d : NestedKey) (H' : Hp), (∀ ns ∈ L, ns ∈ allSizes) → d ∈ L.map (fun ns => eL (zL ns)) → Tv K H' v d → ExB h H1 H' → HandC H' h ca → Q v H' := fun L v d H' hL hd tv e2 hh2 => by
    obtain ⟨ns, hns, rfl⟩ := List.mem_map.mp hd
    exact k v ns H' (hL ns hns) tv (eb.trans e2) hh2
  by_cases hb : decide (V.int (r : Int) = V.int 0) = true
  · rw [hb]
    refine iteT ?_
    refine some_of (K := K) (ds := ([[2, 2, 2, 2, 2], [4, 4], [3, 3, 2], [2, 4, 2, 2], [4, 4, 4]] : List (List Nat)).map fun ns => eL (zL ns)) (σ := start ["_law_hand_here"] [.ref h]) rfl hh1 ?_ (by decide) (by decide) fun v d H' hd tv e2 hh2 => key _ v d H' (by decide) hd tv e2 hh2
    repeat (first | exact ead_nil | refine ead_cons (evd_tup ?_ (by decide)) ?_ | refine ead_cons (evd_i ev_c) ?_)
  · have hb' : decide (V.int (r : Int) = V.int 0) = false := by simpa using hb
    rw [hb']
    rw [if_neg Bool.false_ne_true]
    refine some_of (K := K) (ds := ([[2, 2, 2], [2, 3, 2], [3, 2, 2], [2, 2], [3, 2], [2, 2, 3], [4], [2, 2, 2, 2], [2]] : List (List Nat)).map fun ns => eL (zL ns)) (σ := start ["_law_hand_here"] [.ref h]) rfl hh1 ?_ (by decide) (by decide) fun v d H' hd tv e2 hh2 => key _ v d H' (by decide) hd tv e2 hh2
    repeat (first | exact ead_nil | refine ead_cons (evd_tup ?_ (by decide)) ?_ | refine ead_cons (evd_i ev_c) ?_)
end
end FM
/-! The law's own row. -/
namespace FM
open PySem PySem.Spec PyProof.Rows L2 Evl
theorem exB_unlock {H H' : Hp} {d L : Addr} {u : HO} {od : Obj} (hd : H d = some u) (e' : ExB L (upd H d (.frz od u)) H') : ExB L H (upd H' d u) := fun a o n ha => by
  by_cases h : a = d
  · subst h
    rw [hd] at ha
    cases ha
    exact upd_same
  · rw [upd_ne h]
    refine e' a o n ?_
    rw [upd_ne h]
    exact ha
def lawR (c : List Int) (kvs : Bks) : Row := (kvs.filter fun x => inC c x && decide (0 < x.2)).map fun x => (x.1.1, x.2)
theorem lawR_snoc {c : List Int} {kvs : Bks} {i : Nat} {y : Bx × Int} (h : kvs[i]? = some y) : lawR c (kvs.take (i + 1)) = lawR c (kvs.take i) ++ if (inC c y && decide (0 < y.2)) = true then [(y.1.1, y.2)] else [] := by
  unfold lawR
  rw [List.take_add_one, h, List.filter_append, List.map_append]
  show _ ++ List.map (fun x : Bx × Int => (x.1.1, x.2)) (List.filter (fun x : Bx × Int => inC c x && decide (0 < x.2)) [y]) = _
  congr 1
  by_cases hb : (inC c y && decide (0 < y.2)) = true
  · rw [if_pos hb, List.filter_cons_of_pos (p := fun x : Bx × Int => inC c x && decide (0 < x.2)) hb]
    rfl
  · rw [if_neg hb, List.filter_cons_of_neg (p := fun x : Bx × Int => inC c x && decide (0 < x.2)) hb]
    rfl
theorem rowE_app {B : Int} (r s : Row) : (rowE B (r ++ s)).map eP = (rowE B r).map eP ++ (rowE B s).map eP := by
  unfold rowE
  rw [List.map_append, List.map_append]
section
variable {P : Program} {w : World} {K : PySem.W.Frag} {mg : Str → Option Value} {base : Heap} {aN aO : Addr} {tC tM : Tok}
theorem sc__law_row_of : FnScope ["_law_sizes_here", "_law_shares_here", "_law_content", "_law_row", "_law_box_here", "_law_spent", "_law_rest", "_law_pair"] ["_law_sizes_here", "_law_shares_here", "_law_content"] (defScope (top 67)) := ⟨rfl, rfl, rfl, by decide +kernel, rfl, by decide +kernel, by decide +kernel⟩
def fLawRow (P : Program) (w : World) (K : PySem.W.Frag) : List V → Hp → VP → Prop := fun vs H R => ∃ (s : V) (a : Addr) (c : V) (ns : List Nat) (B : Int) (kvs : Bks) (cc : List Int), vs = [s, .ref a, c] ∧ Tv K H s (eL (zL ns)) ∧ DW P w K H a (bK kvs) (bD B kvs) ∧ Gd ns B kvs ∧ Tv K H c (eL cc) ∧ cc ∈ contents ns ∧
  R = IsD K (eR (rowE B (rowOf ns.length B kvs cc)))
theorem fn__law_row_of (D : Df K mg "_law_row_of" "_law_row_of" (top 67) ["_law_sizes_here", "_law_shares_here", "_law_content"]) (T : Txt K mg aN aO tC tM) (G__law_is_in : Fn P w K mg base "_law_is_in" 2 ["_law_box_here", "_law_content"] (spD K fIn))
    (G__law_sum : Fn P w K mg base "_law_sum" 3 ["_law_row"] (spG (fTotal K))) (G__law_low : Fn P w K mg base "_law_low" 1 ["_law_top", "_law_bottom"] (spD K (fLow K))) : Fn P w K mg base "_law_row_of" 4 ["_law_sizes_here", "_law_shares_here", "_law_content"] (spG (fLawRow P w K)) := by
  refine D.fn fun f fd F => ?_
  refine F.ok sc__law_row_of (fun vs H Q E h => by obtain ⟨R, ⟨s, a, c, ns, B, kvs, cc, rfl, _⟩, _⟩ := h; rfl) (fun cdv A outer s H vs Q E hr h => ?_)
  obtain ⟨R, ⟨v, a, c, ns, B, kvs, cc, rfl, d1, hD, g, dc, hcc, rfl⟩, k⟩ := h
  have hu64 := hr.units
  have hu20 : (A.deeper (envOfC "_law_row_of" (defScope (top 67)) s.heap.objs.size f cdv)).units + 20 < cLine := by omega
  have hu9 : (A.deeper (envOfC "_law_row_of" (defScope (top 67)) s.heap.objs.size f cdv)).units + 9 < cLine := by omega
  refine ⟨_, (pss_cons (ps_set (i := 3) sc__law_row_of.nd rfl (.inl rfl) (pe_lst pa_nil))
      (pss_cons (ps_lock (ps_for PassesOwn.never rfl (pi_nd (pv 1)) (pg_name (i := 4) sc__law_row_of.nd rfl (.inl rfl))
        (pss_one (ps_if (pw_and (pt_val (pe_callF G__law_is_in (hr.mono (by decide)) (pa_cons (pv 4) (pa_cons (pv 2) pa_nil)))) (pw_and1 (pt_cmpR op_gt (pe_ix (r := rIxT K) ix_tup (pe_ndGetK (P := P) (w := w) (K := K) rfl rfl rfl hu9 (pv 1) (pv 4) (fun _ _ => rfl)) pe_int (fun _ _ => rfl)) pe_int (nomark _)))).pt (pss_one (ps_expr (pe_bm PySem.F.plainAttrs_list PySem.F.slot_list_append PySem.F.type_list_append mt_append (pv 3) (pa_cons (pe_tup (pa_cons (pe_ix (r := rIxT K) ix_tup (pv 4) pe_int (fun _ _ => rfl)) (pa_cons (pe_ndGetK (P := P) (w := w) (K := K) rfl rfl rfl hu9 (pv 1) (pv 4) (fun _ _ => rfl)) pa_nil))) pa_nil)))) pss_nil))))
      (pss_cons (ps_set (i := 5) sc__law_row_of.nd rfl (.inl rfl) (pe_callF G__law_sum (hr.mono (by decide)) (pa_cons (pe_lc (own := [(("_law_pair" : Str), 7)]) (g := gName 7) (tt := tYes) rfl sc__law_row_of.nd (pi_list (pv 3)) (blkOk_by (own := [(("_law_pair" : Str), 7)]) (N := ["_law_sizes_here", "_law_shares_here", "_law_content", "_law_row", "_law_box_here", "_law_spent", "_law_rest", "_law_pair"]) (sc := defScope (top 67)) (by decide +kernel)) (fun _ _ _ _ _ => (pg_name (i := 7) sc__law_row_of.nd rfl (.inl rfl))) (fun _ _ _ _ _ => pts_nil) (fun _ _ _ _ _ => (pe_ix (r := rIxT K) ix_tup (pv 7) pe_int (fun _ _ => rfl)))) pa_nil)))
      (pss_cons (ps_set (i := 6) sc__law_row_of.nd rfl (.inl rfl) (pe_callF G__law_low (hr.mono (by decide)) (pa_cons (pe_op op_sub (pe_ix (r := rIxT K) ix_tup (pv 5) pe_int (fun _ _ => rfl)) (pe_ix (r := rIxT K) ix_tup (pv 5) pe_int (fun _ _ => rfl))) (pa_cons (pe_ix (r := rIxT K) ix_tup (pv 5) pe_int (fun _ _ => rfl)) pa_nil))))
      (pss_cons (ps_if (pt_cmpR op_gt (pe_ix (r := rIxT K) ix_tup (pv 6) pe_int (fun _ _ => rfl)) pe_int (nomark _)) (pss_one (ps_expr (pe_bm PySem.F.plainAttrs_list PySem.F.slot_list_append PySem.F.type_list_append mt_append (pv 3) (pa_cons (pe_tup (pa_cons (pe_tupRg rfl (by rfl) T.tuple (prg_1 (by rfl) T.range (pe_callB (r := rLenS K) call_len_seq (by rfl) T.len boot_len (pa_cons (pv 0) pa_nil)))) (pa_cons (pv 6) pa_nil))) pa_nil)))) pss_nil)
      (pss_one (ps_ret (pe_callTy (r := rTupOf K) call_tuple_of (by rfl) T.tuple boot_tuple (pa_cons (pe_callB (r := rSrtL K) (cr_sortedL hu20) (by rfl) T.sorted boot_sorted (pa_cons (pv 3) pa_nil)) pa_nil))))))))), ?_⟩
  have hcol := g.col
  have hgl := g.len
  have hco := con_ok g.sz hcc
  have hzl : ((zL ns).map NestedKey.num).length = ns.length := map_len (zL_len ns)
  have hb := g.bot
  -- row = []
  refine ⟨by decide, fun L hL => ?_⟩
  have e1 : Ex H (upd H L (.lst [])) := Ex.new hL
  obtain ⟨l, l1, l2, l3, l4⟩ := dw_obj (hD.ex e1)
  have d1' := d1.ex e1
  have dc' := dc.ex e1
  have hL1 : (upd H L (.lst [])) L = some (.lst []) := upd_same
  generalize hH1 : upd H L (.lst []) = H1 at e1 l1 l2 l4 d1' dc' hL1
  have hlk : (prs l).length = kvs.length := by
    have := congrArg List.length l3
    rw [List.length_map, List.length_map] at this
    exact this
  have hlk' : l.length = kvs.length := by
    rw [← hlk]
    unfold prs
    rw [List.length_map]
  have nLa : a ≠ L := fun z => by
    subst z
    rw [hL1] at l1
    cases l1
  have kp1 : ∀ od : Obj, Kp H1 (upd H1 a (.frz od (NDO P w a l))) := fun od => kp_lock l1
  refine ⟨a, _, l1, mut_ext, fun od => ⟨_, rfl, a, od, l, rfl, upd_same, for_it walk_nd (fun i σ' H' => ∃ y, σ' = [some v, some (.ref a), some c, some (.ref L), y, none, none, none] ∧ ExB L (upd H1 a (.frz od (NDO P w a l))) H' ∧ Kp (upd H1 a (.frz od (NDO P w a l))) H' ∧ ∃ zs, H' L = some (.lst zs) ∧ TvA K H' zs ((rowE B (lawR cc (kvs.take i))).map eP))
    ⟨none, rfl, .of (Ex.refl _), Kp.refl _, [], by rw [upd_ne (Ne.symm nLa)]; exact hL1, .nil⟩ (fun i σ' H' _ ⟨_, _, eb, _⟩ => eb _ _ nLa upd_same) ?_ ?_⟩⟩
  · rintro i x σ' H3 H4 hi ⟨y, rfl, eb, kp, zs, hzs, htz⟩ ⟨rfl, e, he, rfl⟩
    have hkp : Kp H1 H4 := (kp1 od).trans kp
    obtain ⟨q, hq⟩ : ∃ q, kvs[i]? = some q := ⟨kvs[i]'(by omega), List.getElem?_eq_getElem _⟩
    have hek : e.1 = eB q.1 := by
      have h1 : ((prs l).map (·.1))[i]? = some e.1 := by
        unfold prs
        rw [List.getElem?_map, List.getElem?_map, he]
        rfl
      rw [l3, bK_at hq] at h1
      exact (Option.some.inj h1).symm
    have tv : Tv K H4 (.ref e.2.1) (eB q.1) := by
      have := (l2 e (List.mem_of_getElem? he)).1.kp hkp
      rw [hek] at this
      exact this
    obtain ⟨g1, g2, _⟩ := g.key q (List.mem_of_getElem? hq)
    have gp := pats_ok hcol.1 g1
    have hdd : DD P w K H4 a (bK kvs) (bD B kvs) := ⟨prs l, ⟨l, .inr ⟨od, eb _ _ nLa upd_same⟩, l2.kp hkp, rfl⟩, l3, l4.kp hkp⟩
    have dc4 := dc'.kp hkp
    have hget : ∀ {σ : L2.St} {H5}, Ex H4 H5 → σ[1]? = some (some (V.ref a)) → σ[4]? = some (some (.ref e.2.1)) → EvD K (tOp (rNdGet P w K) (tVar 1) (tVar 4)) σ H5 (eF (lw q.2 B)) := fun e5 h1 h2 =>
      evd_ndGet (evp_var h1 fun H6 e6 => ⟨a, rfl, hdd.ex (e5.trans e6)⟩) (evd_var h2 (tv.ex e5)) (bK_nd g.nd) (bK_at hq) (bD_at hq) (by rw [depth_eB]; decide)
    have hstep : ∀ (b : Bool) H5, (inC cc q && decide (0 < q.2)) = b → Ex H4 H5 → b = false → ∃ y, [some v, some (.ref a), some c, some (.ref L), some (V.ref e.2.1), none, none, none] = [some v, some (.ref a), some c, some (.ref L), y, none, none, none] ∧ ExB L (upd H1 a (.frz od (NDO P w a l))) H5 ∧ Kp (upd H1 a (.frz od (NDO P w a l))) H5 ∧ ∃ zs, H5 L = some (.lst zs) ∧ TvA K H5 zs ((rowE B (lawR cc (kvs.take (i + 1)))).map eP) := fun b H5 hb e5 hf => by
      refine ⟨_, rfl, eb.trans (.of e5), kp.trans (.ex e5), zs, e5 _ _ hzs, ?_⟩
      rw [lawR_snoc hq, hb, hf, if_neg Bool.false_ne_true, List.append_nil]
      exact htz.ex e5
    refine s_when (b := inC cc q && decide (0 < q.2)) (et_and (et_B (evp_callD (ead_cons (evd_var rfl tv) (ead_cons (evd_var rfl dc4) ead_nil)) ⟨q.1.1, q.1.2, cc, rfl, pat_in gp.1 hco.1, by omega, rfl⟩).ev) fun _ => et_is (et_test (ev_op (ev_ix0 (hget (Ex.refl _) rfl rfl) ev_c).int ev_c rv_I0)) ?_) (fun hb5 H5 e5 => ?_) fun hb5 H5 e5 => hstep _ H5 rfl e5 hb5
    · rw [decide_eq_decide]
      exact lw_top_pos hb.1
    · refine ⟨V.ref L, rfl, .inl ⟨rfl, zs, sq_of (e5 _ _ hzs)⟩, ?_⟩
      have hA : EaD K (tCons (tTup (tCons (tOp (rIxT K) (tVar 4) (L2.tC (.int 0))) (tCons (tOp (rNdGet P w K) (tVar 1) (tVar 4)) tNil))) tNil) [some v, some (.ref a), some c, some (.ref L), some (V.ref e.2.1), none, none, none] H5 [eP (q.1.1, lw q.2 B)] :=
        ead_cons (evd_tup (ead_cons (ev_ix0 (evd_var rfl (tv.ex e5)) ev_c) (ead_cons (hget e5 rfl rfl) ead_nil)) (by show 2 ≤ 100000; decide)) ead_nil
      refine hA H5 (Ex.refl _) _ fun vs H6 e6 hvs => ?_
      obtain ⟨u, rfl, tu⟩ := tva1 hvs
      have hzs6 := e6 _ _ (e5 _ _ hzs)
      have k6 : Kp H6 (upd H6 L (.lst (zs ++ [u]))) := Kp.upd (nrd_lst hzs6)
      have hzl6 : zs.length ≤ 1000 := by
        have h1 := htz.length
        rw [rowE_len] at h1
        unfold lawR at h1
        rw [List.length_map] at h1
        have h2 := List.length_filter_le (fun x => inC cc x && decide (0 < x.2)) (kvs.take i)
        rw [List.length_take] at h2
        omega
      refine ⟨L, zs, u, rfl, rfl, hzs6, sz_lt (by omega), ?_⟩
      refine ⟨_, rfl, (eb.trans (.of (e5.trans e6))).trans ExB.upd, (kp.trans (.ex (e5.trans e6))).trans k6, _, upd_same, ?_⟩
      rw [lawR_snoc hq, if_pos hb5, rowE_app]
      exact TvA.append ((htz.ex (e5.trans e6)).kp k6) (.cons (tu.kp k6) .nil)
  · rintro σ' H3 ⟨y, rfl, eb, kp, zs, hzs, htz⟩
    rw [hlk', List.take_length] at htz
    have hfrz : H3 a = some (.frz od (NDO P w a l)) := eb _ _ nLa upd_same
    refine ⟨hfrz, ?_⟩
    have k4 : Kp H3 (upd H3 a (NDO P w a l)) := Kp.upd (nrd_frz hfrz (fun ys z => by cases z))
    have eb4 : ExB L H1 (upd H3 a (NDO P w a l)) := exB_unlock l1 eb
    have kp4 : Kp H1 (upd H3 a (NDO P w a l)) := ((kp1 od).trans kp).trans k4
    have hL4 : (upd H3 a (NDO P w a l)) L = some (.lst zs) := by rw [upd_ne (Ne.symm nLa)]; exact hzs
    have htz4 := htz.kp k4
    have hD4 : DW P w K (upd H3 a (NDO P w a l)) a (bK kvs) (bD B kvs) := ⟨prs l, ⟨l, upd_same, l2.kp kp4, rfl⟩, l3, l4.kp kp4⟩
    have d4 := d1'.kp kp4
    generalize upd H3 a (NDO P w a l) = H4 at eb4 hL4 htz4 hD4 d4
    show tSeq _ _ _ (_ : L2.St) H4
    have hps := Gd.law_keys g (c := cc)
    have v3 : ∀ {H'}, Ex H4 H' → EvP (tVar 3) [some v, some (.ref a), some c, some (.ref L), y, none, none, none] H' (IsLD K ((rowE B (lawR cc kvs)).map eP)) := fun e => evp_var rfl fun H5 e5 => ⟨L, zs, rfl, (e.trans e5) _ _ hL4, htz4.ex (e.trans e5)⟩
    have hrl : (lawR cc kvs).length ≤ 900 := by
      unfold lawR
      rw [List.length_map]
      have h2 := List.length_filter_le (fun x => inC cc x && decide (0 < x.2)) kvs
      omega
    have hLc := evp_lcD (K := K) (σ := [some v, some (.ref a), some c, some (.ref L), y, none, none, none]) (H := H4) (te := tOp (rIxT K) (tVar 7) (L2.tC (.int 1))) (g := gName 7) (tt := tYes) (vs := [7]) (wi := iList K (tVar 3)) (Y := fun i v H => ∃ d, ((rowE B (lawR cc kvs)).map eP)[i]? = some d ∧ Tv K H v d) (lawR cc kvs) (fun _ => true) (fun x => eF (lw x.2 B))
      (by have := evi_listD (v3 (Ex.refl _)); rw [rowE_len] at this; exact this) (by omega) (fun i q x H5 hq e5 ⟨d, hd', tv⟩ => by
        obtain ⟨q', hq', rfl⟩ := rowE_get hd'
        rw [hq] at hq'
        cases hq'
        exact gvg_name ⟨rfl, et_yes, fun _ => ev_ix1 (evd_var rfl tv) ev_c⟩)
    rw [List.filter_eq_self.mpr (fun _ _ => rfl)] at hLc
    have hsum : ((lawR cc kvs).map (·.2)).sum = spent kvs cc := by
      rw [← law_spent kvs cc g.num]
      unfold lawR
      rw [List.map_map]
      rfl
    have hT := evp_call (P := IsD K (eF (lw (spent kvs cc) B))) (F := fTotal K) (E := EN) (eap_cons hLc sty_LD eap_nil) fun vs H5 e5 ⟨v, ws, ev, ⟨l, ys, el, hl, tl⟩, ew⟩ => ⟨_, ⟨l, ys, (lawR cc kvs).map (·.2), B, by rw [ev, ew, el], hl, by rw [List.map_map]; exact tl, hb.1, hb.2, rfl⟩, fun v H5 e5 p => by
      rw [hsum] at p
      exact p⟩
    refine qp_asg hT fun vS H5 e5 hS => ?_
    have p1 := lw_pos (k := spent kvs cc) hb.1
    have p2 := lw_le (k := spent kvs cc) hb.1
    have vS5 : EvD K (tVar 5) ([some v, some (.ref a), some c, some (.ref L), y, none, none, none].set 5 (some vS)) H5 (eF (lw (spent kvs cc) B)) := evd_var rfl hS
    refine qp_asg (P := IsD K (eF (lw (B - spent kvs cc) B))) ((evp_callD (f := fLow K) (ead_cons (evd_i (ev_op (ev_ix1 vS5 ev_c).int (ev_ix0 vS5 ev_c).int rv_I0)) (ead_cons (ev_ix1 vS5 ev_c) ead_nil)) ⟨_, _, rfl, p1, by omega, rfl⟩).imp fun v H2 _ p => by
      rw [← lw_rest hb.1]
      exact p) fun vR H6 e6 hR => ?_
    have e46 := e5.trans e6
    -- what comes last
    have fin : ∀ H8, ExB L H1 H8 → (∀ zs8, H8 L = some (.lst zs8) → TvA K H8 zs8 ((rowE B (lawRow ns.length B kvs cc)).map eP) → True) → (∃ zs8, H8 L = some (.lst zs8) ∧ TvA K H8 zs8 ((rowE B (lawRow ns.length B kvs cc)).map eP)) →
        tRet (tCB (rTupOf K) (tCons (tCB (rSrtL K) (tCons (tVar 3) tNil)) tNil)) { nx := fun _ H' => Q .non H', rt := Q } [some v, some (.ref a), some c, some (.ref L), y, some vS, some vR, none] H8 := by
      rintro H8 eb8 _ ⟨zs8, h8, t8⟩
      have hn : ((rowE B (lawRow ns.length B kvs cc)).map (·.1)).Nodup := by
        unfold rowE
        rw [List.map_map]
        exact hps
      have hsort : EvP (tCB (rSrtL K) (tCons (tVar 3) tNil)) [some v, some (.ref a), some c, some (.ref L), y, some vS, some vR, none] H8 (IsLD K ((rowE B (rowOf ns.length B kvs cc)).map eP)) := (evp_sortP (evp_var (i := 3) rfl fun H9 e9 => ⟨L, zs8, rfl, e9 _ _ h8, t8.ex e9⟩) hn).imp fun v H9 _ ⟨qs, q1, q2, q3⟩ => by
        have e : qs = rowE B (rowOf ns.length B kvs cc) := by
          refine sorted_one (R := fun p q => lexL p.1 q.1 = true) (fun a b h1 h2 => by rw [lexL_asym h1] at h2; cases h2) q2 ?_ fun x => ?_
          · unfold rowE
            rw [List.pairwise_map]
            exact g.row_asc
          · rw [q1.mem_iff]
            unfold rowE
            rw [List.mem_map, List.mem_map]
            exact ⟨fun ⟨z, h1, h2⟩ => ⟨z, (g.law_mem hcc z).mp h1, h2⟩, fun ⟨z, h1, h2⟩ => ⟨z, (g.law_mem hcc z).mpr h1, h2⟩⟩
        rw [← e]
        exact q3
      refine sp_ret (evd_tupOf hsort) fun v9 H9 e9 p => k v9 H9 ?_ p
      exact ExB.ex hL (ExB.trans (by rw [← hH1]; exact ExB.upd) (eb8.trans (.of e9)))
    have hlr : lawRow ns.length B kvs cc = lawR cc kvs ++ if 0 < B - spent kvs cc then [(allC ns.length, B - spent kvs cc)] else [] := rfl
    refine q_when (b := decide (0 < B - spent kvs cc)) (et_is (et_test (ev_op (ev_ix0 (evd_var (i := 6) rfl hR) ev_c).int ev_c rv_I0)) ?_) (fun hb5 H7 e7 => ?_) fun hb5 H7 e7 => ?_
    · rw [decide_eq_decide]
      exact lw_top_pos hb.1
    · refine ⟨V.ref L, rfl, .inl ⟨rfl, zs, sq_of ((e46.trans e7) _ _ hL4)⟩, ?_⟩
      have hA : EaD K (tCons (tTup (tCons (tTupRg (tRg1 (tCB (rLenS K) (tCons (tVar 0) tNil)))) (tCons (tVar 6) tNil))) tNil) [some v, some (.ref a), some c, some (.ref L), y, some vS, some vR, none] H7 [eP (allC ns.length, lw (B - spent kvs cc) B)] :=
        ead_cons (evd_tup (ead_cons (evd_tupRg (Ev.castI (ev_lenD (evd_var rfl (d4.ex (e46.trans e7)))) (j := (ns.length : Int)) (by rw [hzl])) (by omega)) (ead_cons (evd_var rfl (Tv.ex hR e7)) ead_nil)) (by show 2 ≤ 100000; decide)) ead_nil
      refine hA H7 (Ex.refl _) _ fun vs H8 e8 hvs => ?_
      obtain ⟨u, rfl, tu⟩ := tva1 hvs
      have e48 := (e46.trans e7).trans e8
      have hzs8 := e48 _ _ hL4
      have k8 : Kp H8 (upd H8 L (.lst (zs ++ [u]))) := Kp.upd (nrd_lst hzs8)
      refine ⟨L, zs, u, rfl, rfl, hzs8, sz_lt (by rw [htz4.length, rowE_len]; omega), ?_⟩
      refine fin _ ((eb4.trans (.of e48)).trans ExB.upd) (fun _ _ _ => trivial) ⟨_, upd_same, ?_⟩
      rw [hlr, if_pos (of_decide_eq_true hb5), rowE_app]
      exact TvA.append ((htz4.ex e48).kp k8) (.cons (tu.kp k8) .nil)
    · refine fin _ (eb4.trans (.of (e46.trans e7))) (fun _ _ _ => trivial) ⟨zs, (e46.trans e7) _ _ hL4, ?_⟩
      rw [hlr, if_neg (of_decide_eq_false hb5), List.append_nil]
      exact htz4.ex (e46.trans e7)
end
end FM
/-! Drawing while other things stand. -/
namespace FM
open PySem PySem.Spec PyProof.Rows L2 Evl
/-- tuples stay, lists too but the hand -/
def KpH (h : Addr) (H H' : Hp) : Prop := Kp H H' ∧ ∀ l xs, l ≠ h → H l = some (.lst xs) → H' l = some (.lst xs)
theorem KpH.refl (h : Addr) (H : Hp) : KpH h H H := ⟨Kp.refl H, fun _ _ _ h => h⟩
theorem KpH.trans {h : Addr} {H H1 H2 : Hp} (a : KpH h H H1) (b : KpH h H1 H2) : KpH h H H2 := ⟨a.1.trans b.1, fun l xs n h => b.2 l xs n (a.2 l xs n h)⟩
theorem KpH.ex {h : Addr} {H H' : Hp} (e : Ex H H') : KpH h H H' := ⟨.ex e, fun l xs _ h => e _ _ h⟩
theorem KpH.draw {h ca : Addr} {H H' : Hp} (hh : HandC H h ca) (e : ExB h H H') : KpH h H H' := by
  obtain ⟨xs, hx⟩ := hh.lst
  exact ⟨kp_lst hx e, fun l xs n hl => e _ _ n hl⟩
theorem KpH.of {h : Addr} {H H' : Hp} {D : Addr} {φ : Heap → Prop} (hD : H D = some (.ext φ)) (e : ExB D H H') (k : Kp H H') : KpH h H H' := ⟨k, fun l xs _ hl => e l _ (fun z => by subst z; rw [hD] at hl; cases hl) hl⟩
/-- what is made later is changed -/
theorem ExB.late {h D : Addr} {H H1 H2 : Hp} (f : H D = none) (a : ExB h H H1) (b : ExB D H1 H2) : ExB h H H2 := fun x o n hx => b x o (ne_of_none hx f) (a x o n hx)
/-- a list of tuples is not the hand -/
theorem ld_ne {K : PySem.W.Frag} {H : Hp} {h ca l : Addr} {ys : List V} {ps : List (List Int)} (hh : HandC H h ca) (hl : H l = some (.lst ys)) (t : TvA K H ys (ps.map eL)) : l ≠ h := fun z => by
  subst z
  obtain ⟨cs, i, d, s, c, h1, _⟩ := hh
  rw [hl] at h1
  injection h1 with h1
  injection h1 with e
  rw [e] at t
  obtain ⟨d', hd, tv⟩ := t.get (i := 1) rfl
  rw [List.getElem?_map] at hd
  obtain ⟨p, hp, rfl⟩ := Option.map_eq_some_iff.mp hd
  obtain ⟨a, xs, ev, _⟩ := Tv.tupI tv
  cases ev
section
variable {P : Program} {w : World} {K : PySem.W.Frag} {σ : L2.St} {H : Hp} {tl te : TE} {g : TG} {tu : TS} {D : Ends} {tz : TS} {h ca : Addr} {Q : VK}
/-- one number drawn -/
theorem t_draw {m : Nat} (hσ : σ[0]? = some (some (.ref h))) (hh : HandC H h ca) (ht : Ev te σ H (.int (m : Int))) (h0 : 0 < m) (h1 : m < 1000000) (k : ∀ (r : Nat) H', r < m → ExB h H H' → HandC H' h ca → Q (.int (r : Int)) H') : tCall (spDraw okDraw rDraw) [] EN (tCons (tVar 0) (tCons te tNil)) σ H Q :=
  ⟨.ref h, hσ, ht H (Ex.refl H) _ fun H1 e1 => ⟨h, ca, [.int (m : Int)], rfl, hh.ex e1, ⟨m, rfl, h0, h1⟩, fun v H' eb hh' ⟨m', r, em, er, hr⟩ => by
    subst er
    have em' : m = m' := by
      have := V.int.inj (List.cons.inj em).1
      omega
    exact k r H' (by omega) ((ExB.of e1).trans eb) hh'⟩⟩
theorem q_draw {m i : Nat} (hσ : σ[0]? = some (some (.ref h))) (hh : HandC H h ca) (ht : Ev te σ H (.int (m : Int))) (h0 : 0 < m) (h1 : m < 1000000) (k : ∀ (r : Nat) H', r < m → ExB h H H' → HandC H' h ca → tz D (σ.set i (some (.int (r : Int)))) H') : tSeq (tAsg (tCall (spDraw okDraw rDraw) [] EN (tCons (tVar 0) (tCons te tNil))) (gName i)) tz D σ H :=
  t_draw (Q := fun x H1 => gName i x σ H1 (fun σ H => tz D σ H)) hσ hh ht h0 h1 k
/-- for over a list of tuples, while the hand is drawn from -/
theorem sp_forLH {ps : List (List Int)} (hp : EvP tl σ H (IsLD K (ps.map eL))) (hh : HandC H h ca) (Pv : Hp → Nat → L2.St → Hp → Prop) (h0 : ∀ H1, Ex H H1 → Pv H1 0 σ H1) (hk : ∀ H1 i σ' H', Pv H1 i σ' H' → KpH h H1 H')
    (hs : ∀ H1 i p x σ' H', Ex H H1 → ps[i]? = some p → Pv H1 i σ' H' → Tv K H' x (eL p) → g x σ' H' fun σ2 H2 => tu { D with nx := Pv H1 (i + 1), ct := Pv H1 (i + 1), bk := D.nx } σ2 H2) (hd : ∀ H1 σ' H', Ex H H1 → Pv H1 ps.length σ' H' → D.nx σ' H') : tFor (iList K tl) g tu D σ H :=
  hp H (Ex.refl H) _ fun v H1 e ⟨a, ys, ev, hy, ty⟩ => by
    have hn := ld_ne (hh.ex e) hy ty
    have hyl : ys.length = ps.length := by rw [ty.length, List.length_map]
    refine ⟨a, ev, ⟨ys, sq_of hy⟩, for_list (Pv H1) (h0 H1 e) (fun i σ' H' _ q => sq_of ((hk H1 i σ' H' q).2 a ys hn hy)) (fun i x σ' H' hx q => ?_) fun σ' H' q => hd H1 σ' H' e (by rw [← hyl]; exact q)⟩
    obtain ⟨d, hd', tv⟩ := ty.get hx
    rw [List.getElem?_map] at hd'
    obtain ⟨p, hp', rfl⟩ := Option.map_eq_some_iff.mp hd'
    exact hs H1 i p x σ' H' e hp' q (tv.kp (hk H1 i σ' H' q).1)
/-- some picked -/
theorem t_picks {l : Addr} {xs : List V} (hσ0 : σ[0]? = some (some (.ref h))) (hσ2 : σ[2]? = some (some (.ref l))) (hh : HandC H h ca) (hl : H l = some (.lst xs)) (nl : l ≠ h) (h0 : 0 < xs.length) (h1 : xs.length < 100000)
    (k : ∀ (Dl : Addr) (ys : List V) H', H' Dl = some (.lst ys) → (∀ y ∈ ys, y ∈ xs) → ys.length ≤ 4 → ExB h H H' → HandC H' h ca → Q (.ref Dl) H') :
    tLc (iRng1 (tCons (tOp (rI0 fun i j => .int (i + j)) (L2.tC (.int 1)) (tCall (spDraw okDraw rDraw) [] EN (tCons (tVar 0) (tCons (L2.tC (.int 4)) tNil)))) tNil)) (gName 10) tYes (tCall spSome [] EN (tCons (tVar 0) (tCons (tVar 2) tNil))) [10] σ H Q := by
  refine t_draw (m := 4) hσ0 hh ev_c (by decide) (by decide) fun r H1 hr eb1 hh1 => ?_
  refine ⟨1, r, rfl, rfl, (1 : Int) + r, rfl, by omega, by omega, fun Dl hDl => ?_⟩
  have en : ((1 : Int) + (r : Int)).toNat = 1 + r := by omega
  rw [en]
  have nh : Dl ≠ h := fun z => by
    subst z
    obtain ⟨xs, hx⟩ := hh1.lst
    rw [hDl] at hx
    cases hx
  have nc : Dl ≠ ca := fun z => by
    subst z
    obtain ⟨xs, hx⟩ := hh1.lst2
    rw [hDl] at hx
    cases hx
  have hl1 := eb1 _ _ nl hl
  have nDl : l ≠ Dl := ne_of_none hl1 hDl
  refine lc_it (walk_range (lo := 0) (n := 1 + r)) (fun i H' => ∃ acc, H' Dl = some (.lst acc) ∧ acc.length = i ∧ (∀ y ∈ acc, y ∈ xs) ∧ ExB h H1 H' ∧ HandC H' h ca) ⟨[], upd_same, rfl, (fun y hy => by cases hy), .of (Ex.new hDl), hh1.ex (Ex.new hDl)⟩ (fun _ _ _ _ => trivial) (fun i x H2 H3 hi p y => ?_) fun H' p => ?_
  · obtain ⟨acc, a1, a2, a3, a4, a5⟩ := p
    obtain ⟨rfl, rfl⟩ := y
    refine ⟨by show wipe ((wipe σ [10]).set 10 _) [10] = _; show ((σ.set 10 none).set 10 _).set 10 none = σ.set 10 none; rw [List.set_set, List.set_set], ?_⟩
    show tYes _ _ _
    unfold tYes
    dsimp only
    rw [if_pos (rfl : (true : Bool) = true)]
    have hw : ∀ (j : Nat) (o : Option V), j ≠ 10 → ((wipe σ [10]).set 10 o)[j]? = σ[j]? := fun j o hj => by
      show ((σ.set 10 none).set 10 o)[j]? = _
      rw [List.getElem?_set_ne (Ne.symm hj), List.getElem?_set_ne (Ne.symm hj)]
    refine ⟨.ref h, (hw 0 _ (by decide)).trans hσ0, .ref l, (hw 2 _ (by decide)).trans hσ2, h, ca, l, xs, rfl, a5, nl, a4 _ _ nl hl1, h0, h1, fun j v H4 hv eb hh4 => ?_⟩
    have hD4 := eb _ _ nh a1
    refine ⟨acc, hD4, sz_lt (by omega), acc ++ [v], upd_same, by rw [List.length_append, a2]; rfl, fun y hy => ?_, fun a o n ha => ?_, hh4.upd nh nc⟩
    · rcases List.mem_append.mp hy with hy | hy
      · exact a3 y hy
      · have : y = v := by simpa using hy
        rw [this]
        exact List.mem_of_getElem? hv
    · rw [upd_ne (ne_of_none ha hDl)]
      exact eb _ _ n (a4 _ _ n ha)
  · obtain ⟨acc, a1, a2, a3, a4, a5⟩ := p
    exact k Dl acc H' a1 a3 (by omega) (eb1.trans a4) a5
end
end FM
/-! The law's shares. -/
namespace FM
open PySem PySem.Spec PyProof.Rows L2 Evl
def rSrtS (P : Program) (w : World) (K : PySem.W.Frag) : List V → Hp → VK → Prop := fun vs H Q => ∃ a L, vs = [V.ref a] ∧ H a = some (SetTO P w a L) ∧ (∀ p ∈ L, SqT K H p.1 (p.2.map V.int)) ∧ (((L.map (·.2)).Nodup ∧ L.length < 64) → Out H K (L.map fun p => eL p.2) Q)
theorem picked {K : PySem.W.Frag} {H : Hp} {ps : List (List Int)} {xs : List V} (t : TvA K H xs (ps.map eL)) : ∀ ys : List V, (∀ y ∈ ys, y ∈ xs) → ∃ ks : List (Addr × List Int), ys = ks.map (fun p => V.ref p.1) ∧ ∀ p ∈ ks, SqT K H p.1 (p.2.map V.int) ∧ p.2 ∈ ps
  | [], _ => ⟨[], rfl, fun p hp => by cases hp⟩
  | y :: ys, h => by
    obtain ⟨ks, e, hk⟩ := picked t ys fun z hz => h z (List.mem_cons_of_mem _ hz)
    obtain ⟨d, hd, tv⟩ := t.mem (h y List.mem_cons_self)
    obtain ⟨p, hp, rfl⟩ := List.mem_map.mp hd
    obtain ⟨a, rfl, hs⟩ := tv.intsI
    exact ⟨(a, p) :: ks, by rw [e]; rfl, fun q hq => by
      rcases List.mem_cons.mp hq with e | hq
      · subst e
        exact ⟨hs, hp⟩
      · exact hk q hq⟩
section
variable {P : Program} {w : World} {K : PySem.W.Frag} {σ : L2.St} {H : Hp} {h ca : Addr}
/-- over the sorted set of some picked -/
theorem it_picks {R : It → Hp → Prop} {l : Addr} {xs : List V} {ps : List (List Int)} (hσ0 : σ[0]? = some (some (.ref h))) (hσ2 : σ[2]? = some (some (.ref l))) (hh : HandC H h ca) (hl : H l = some (.lst xs)) (tx : TvA K H xs (ps.map eL)) (h0 : 0 < ps.length) (h1 : ps.length < 100000)
    (k : ∀ (lq : Addr) (ys : List V) (qs : List (List Int)) H', H' lq = some (.lst ys) → TvA K H' ys (qs.map eL) → qs.Nodup → (∀ q ∈ qs, q ∈ ps) → qs.length ≤ 4 → lq ≠ h → ExB h H H' → HandC H' h ca → R (Itl K lq) H') :
    iList K (tCB (rSrtS P w K) (tCons (tCB (rSetOfT K P w) (tCons (tLc (iRng1 (tCons (tOp (rI0 fun i j => .int (i + j)) (L2.tC (.int 1)) (tCall (spDraw okDraw rDraw) [] EN (tCons (tVar 0) (tCons (L2.tC (.int 4)) tNil)))) tNil)) (gName 10) tYes (tCall spSome [] EN (tCons (tVar 0) (tCons (tVar 2) tNil))) [10]) tNil)) tNil)) σ H R := by
  have hxl : xs.length = ps.length := by rw [tx.length, List.length_map]
  unfold iList
  unfold tCB
  unfold tCons
  refine t_picks hσ0 hσ2 hh hl (ld_ne hh hl tx) (by omega) (by omega) fun Dl ys H1 hD hys hyl eb1 hh1 => ?_
  obtain ⟨ks, rfl, hks⟩ := picked tx ys hys
  have kp1 := (KpH.draw hh eb1).1
  have hks1 : ∀ p ∈ ks, SqT K H1 p.1 (p.2.map V.int) ∧ p.2 ∈ ps := fun p hp => ⟨kp1.sqt (hks p hp).1, (hks p hp).2⟩
  rw [List.length_map] at hyl
  refine ⟨Dl, ks, rfl, sq_of hD, fun p hp => (hks1 p hp).1, by omega, fun a L ha hL1 hL2 => ?_⟩
  have e2 : Ex H1 (upd H1 a (SetTO P w a L)) := Ex.new ha
  refine ⟨a, L, rfl, upd_same, fun p hp => ex_t e2 (hks1 p (hL1 p hp)).1, fun hn p ys es hp ty g1 g2 => ?_⟩
  have em : (L.map fun p => eL p.2) = (L.map (·.2)).map eL := by
    rw [List.map_map]
    rfl
  rw [em] at g1
  obtain ⟨qs, rfl, q1, q2⟩ := out_eL g1 g2 hn.1
  have e3 := Ex.new (o := .lst ys) hp
  have hh2 := (hh1.ex e2).ex e3
  refine ⟨p, rfl, ⟨ys, sq_of upd_same⟩, k p ys qs _ upd_same (ty.ex e3) (q1.symm.nodup hn.1) (fun q hq => ?_) ?_ (fun z => ?_) (eb1.trans (.of (e2.trans e3))) hh2⟩
  · obtain ⟨z, hz, rfl⟩ := List.mem_map.mp (q1.mem_iff.mp hq)
    exact (hks1 z (hL1 z hz)).2
  · rw [q1.length_eq]
    have := nodup_len (l := ks.map (·.2)) hn.1 fun x hx => by
      obtain ⟨z, hz, rfl⟩ := List.mem_map.mp hx
      exact List.mem_map.mpr ⟨z, hL1 z hz, rfl⟩
    rw [List.length_map (as := ks)] at this
    omega
  · subst z
    obtain ⟨xs, hx⟩ := (hh1.ex e2).lst
    rw [hp] at hx
    cases hx
end
/-- patterns of a part of the columns -/
def parts (n : Nat) : List (List Int) := (pats n).filter fun p => decide (p.length < n)
theorem parts_pos : ∀ n, n ≤ 5 → 1 ≤ n → 0 < (parts n).length ∧ (parts n).length ≤ 32 := by decide +kernel
/-- what stands between two patterns: left, and what was made -/
structure ShI (ns : List Nat) (B : Int) (qs : List (List Int)) (lf : Nat) (kvs : Bks) : Prop where
  nd : (kvs.map (·.1)).Nodup
  key : ∀ x ∈ kvs, x.1.1 ∈ qs ∧ ∃ c ∈ contents ns, x.1.2 = proj x.1.1 c
  num : ∀ x ∈ kvs, 0 ≤ x.2
  sum : ∀ c ∈ contents ns, spent kvs c ≤ B - lf
  len : kvs.length ≤ 64 * qs.length
/-- what one pattern adds -/
structure NewI (ns : List Nat) (p : List Int) (most : Nat) (j : Nat) (new : Bks) : Prop where
  nd : (new.map (·.1)).Nodup
  key : ∀ x ∈ new, x.1.1 = p ∧ ∃ c ∈ contents ns, x.1.2 = proj p c
  num : ∀ x ∈ new, 0 ≤ x.2 ∧ x.2 ≤ most
  len : new.length ≤ j
theorem spent_app (a b : Bks) (c : List Int) : spent (a ++ b) c = spent a c + spent b c := by
  unfold spent
  rw [List.filter_append, List.map_append, List.sum_append]
theorem spent_new {p : List Int} {most : Nat} {c : List Int} : ∀ {new : Bks}, (new.map (·.1)).Nodup → (∀ x ∈ new, x.1.1 = p) → (∀ x ∈ new, 0 ≤ x.2 ∧ x.2 ≤ (most : Int)) → spent new c ≤ most ∧ ((∀ x ∈ new, x.1 ≠ (p, proj p c)) → spent new c = 0)
  | [], _, _, _ => ⟨by show (0 : Int) ≤ most; omega, fun _ => rfl⟩
  | x :: new, hn, hp, hm => by
    have hn' := List.nodup_cons.mp hn
    obtain ⟨i1, i2⟩ := spent_new (p := p) (c := c) hn'.2 (fun y hy => hp y (List.mem_cons_of_mem _ hy)) fun y hy => hm y (List.mem_cons_of_mem _ hy)
    have hx := hp x List.mem_cons_self
    have hx2 := hm x List.mem_cons_self
    have e : spent (x :: new) c = (if inC c x = true then x.2 else 0) + spent new c := by
      unfold spent
      by_cases hb : inC c x = true
      · rw [if_pos hb, List.filter_cons_of_pos hb]
        rfl
      · rw [if_neg hb, List.filter_cons_of_neg hb]
        omega
    by_cases hb : inC c x = true
    · have ek : x.1 = (p, proj p c) := by
        have := of_decide_eq_true hb
        rw [hx] at this
        exact Prod.ext hx this.symm
      have h0 := i2 fun y hy z => hn'.1 (List.mem_map.mpr ⟨y, hy, z.trans ek.symm⟩)
      rw [e, if_pos hb, h0]
      exact ⟨by omega, fun h => absurd ek (h x List.mem_cons_self)⟩
    · rw [e, if_neg hb]
      exact ⟨by omega, fun h => by rw [i2 fun y hy => h y (List.mem_cons_of_mem _ hy)]; omega⟩
theorem ShI.step {ns : List Nat} {B : Int} {qs : List (List Int)} {lf m : Nat} {kvs new : Bks} {p : List Int} (s : ShI ns B qs lf kvs) (n : NewI ns p m (contents ns).length new) (h64 : (contents ns).length ≤ 64) (hp : p ∉ qs) (hm : m ≤ lf) : ShI ns B (qs ++ [p]) (lf - m) (kvs ++ new) where
  nd := by
    rw [List.map_append]
    refine List.nodup_append.mpr ⟨s.nd, n.nd, fun a ha b hb e => hp ?_⟩
    obtain ⟨x, hx, rfl⟩ := List.mem_map.mp ha
    obtain ⟨y, hy, rfl⟩ := List.mem_map.mp hb
    have := (n.key y hy).1
    rw [← this, ← e]
    exact (s.key x hx).1
  key := fun x hx => by
    rcases List.mem_append.mp hx with hx | hx
    · obtain ⟨h1, h2⟩ := s.key x hx
      exact ⟨List.mem_append_left _ h1, h2⟩
    · obtain ⟨h1, h2⟩ := n.key x hx
      exact ⟨List.mem_append_right _ (by rw [h1]; exact List.mem_singleton.mpr rfl), by rw [h1]; exact h2⟩
  num := fun x hx => by
    rcases List.mem_append.mp hx with hx | hx
    · exact s.num x hx
    · exact (n.num x hx).1
  sum := fun c hc => by
    rw [spent_app]
    have h1 := s.sum c hc
    have h2 := (spent_new (c := c) n.nd (fun x hx => (n.key x hx).1) n.num).1
    have : ((lf - m : Nat) : Int) = (lf : Int) - m := by omega
    omega
  len := by
    have h1 := s.len
    have h2 := n.len
    rw [List.length_append, List.length_append]
    show _ ≤ 64 * (qs.length + 1)
    omega
theorem ShI.gd {ns : List Nat} {B : Int} {qs : List (List Int)} {lf : Nat} {kvs : Bks} (s : ShI ns B qs lf kvs) (hs : ns ∈ allSizes) (hb : 0 < B ∧ B ≤ 12) (hq : ∀ q ∈ qs, q ∈ parts ns.length) (h4 : qs.length ≤ 4) : Gd ns B kvs where
  sz := hs
  bot := hb
  nd := s.nd
  key := fun x hx => by
    obtain ⟨h1, h2⟩ := s.key x hx
    obtain ⟨h3, h4⟩ := List.mem_filter.mp (hq _ h1)
    exact ⟨h3, of_decide_eq_true h4, h2⟩
  num := s.num
  sum := fun c hc => by
    have := s.sum c hc
    omega
  len := by
    have := s.len
    omega
section
variable {P : Program} {w : World} {K : PySem.W.Frag} {σ : L2.St} {H : Hp} {g : TG} {tu : TS} {D : Ends} {tz : TS} {h ca : Addr} {Q : VK} {ta tb te td tk : TE} {tr : TA}
theorem q_addDraw {m i : Nat} (hσ : σ[0]? = some (some (.ref h))) (hh : HandC H h ca) (ht : Ev te σ H (.int (m : Int))) (h0 : 0 < m) (h1 : m < 1000000) (k : ∀ (r : Nat) H', r < m → ExB h H H' → HandC H' h ca → tz D (σ.set i (some (.int (1 + (r : Int))))) H') :
    tSeq (tAsg (tOp (rI0 fun i j => .int (i + j)) (L2.tC (.int 1)) (tCall (spDraw okDraw rDraw) [] EN (tCons (tVar 0) (tCons te tNil)))) (gName i)) tz D σ H :=
  t_draw (Q := fun y H1 => rI0 (fun i j => .int (i + j)) (.int 1) y H1 fun x H1 => gName i x σ H1 (fun σ H => tz D σ H)) hσ hh ht h0 h1 fun r H' hr eb hh' => ⟨1, r, rfl, rfl, k r H' hr eb hh'⟩
theorem t_ifDraw {m : Nat} (hσ : σ[0]? = some (some (.ref h))) (hh : HandC H h ca) (ht : Ev te σ H (.int (m : Int))) (h0 : 0 < m) (h1 : m < 1000000) (k1 : ∀ H', ExB h H H' → HandC H' h ca → ta σ H' Q) (k2 : ∀ H', ExB h H H' → HandC H' h ca → tb σ H' Q) :
    tIf (tTest (tOp (rI0 fun i j => .bl (decide (j < i))) (tCall (spDraw okDraw rDraw) [] EN (tCons (tVar 0) (tCons te tNil))) (L2.tC (.int 0)))) ta tb σ H Q :=
  t_draw (Q := fun x H1 => ∃ i j, x = .int i ∧ V.int 0 = .int j ∧ ∃ k, V.bl (decide (j < i)) = .bl k ∧ if k = true then ta σ H1 Q else tb σ H1 Q) hσ hh ht h0 h1 fun r H' hr eb hh' => ⟨r, 0, rfl, rfl, _, rfl, by
    split
    · exact k1 H' eb hh'
    · exact k2 H' eb hh'⟩
theorem sp_putIf {sp : Sp} {tt : TT} (x : tIf tt ta tb σ H (fun x H1 => sNdPut P w K td tk (tCall sp [] EN (tCons (L2.tC x) tr)) D σ H1)) : sNdPut P w K td tk (tCall sp [] EN (tCons (tIf tt ta tb) tr)) D σ H := x
theorem q_picks {l : Addr} {xs : List V} {ps : List (List Int)} (hσ0 : σ[0]? = some (some (.ref h))) (hσ2 : σ[2]? = some (some (.ref l))) (hh : HandC H h ca) (hl : H l = some (.lst xs)) (tx : TvA K H xs (ps.map eL)) (h0 : 0 < ps.length) (h1 : ps.length < 100000)
    (k : ∀ (lq : Addr) (ys : List V) (qs : List (List Int)) H', H' lq = some (.lst ys) → TvA K H' ys (qs.map eL) → qs.Nodup → (∀ q ∈ qs, q ∈ ps) → qs.length ≤ 4 → lq ≠ h → ExB h H H' → HandC H' h ca → ∃ Pv : Nat → L2.St → Hp → Prop, Pv 0 σ H' ∧ (∀ i σ' H', i ≤ ys.length → Pv i σ' H' → SqL K H' lq ys) ∧
      (∀ i x σ' H', ys[i]? = some x → Pv i σ' H' → g x σ' H' fun σ2 H2 => tu { D with nx := Pv (i + 1), ct := Pv (i + 1), bk := tz D } σ2 H2) ∧ ∀ σ' H', Pv ys.length σ' H' → tz D σ' H') :
    tSeq (tFor (iList K (tCB (rSrtS P w K) (tCons (tCB (rSetOfT K P w) (tCons (tLc (iRng1 (tCons (tOp (rI0 fun i j => .int (i + j)) (L2.tC (.int 1)) (tCall (spDraw okDraw rDraw) [] EN (tCons (tVar 0) (tCons (L2.tC (.int 4)) tNil)))) tNil)) (gName 10) tYes (tCall spSome [] EN (tCons (tVar 0) (tCons (tVar 2) tNil))) [10]) tNil)) tNil))) g tu) tz D σ H := by
  show tFor _ _ _ _ _ _
  unfold tFor
  refine it_picks hσ0 hσ2 hh hl tx h0 h1 fun lq ys qs H' x1 x2 x3 x4 x5 x6 x7 x8 => ?_
  obtain ⟨Pv, p0, p1, p2, p3⟩ := k lq ys qs H' x1 x2 x3 x4 x5 x6 x7 x8
  exact for_list Pv p0 p1 p2 p3
theorem ev_ndNot {a : Addr} {ks ds kk : List NestedKey} (hk : EvD K tk σ H (.tup kk)) (ho : Ev td σ H (.ref a)) (hD : DD P w K H a ks ds) (z : (NestedKey.tup kk).depth ≤ 8) : Ev (tOp (rNdIn P w K true) tk td) σ H (.bl (!decide ((.tup kk : NestedKey) ∈ ks))) := fun H1 e1 Q q =>
  hk H1 e1 _ fun y H2 e2 ty => ho H2 (e1.trans e2) _ fun H3 e3 => by
    obtain ⟨kvs, h1, h2, h3⟩ := hD.ex ((e1.trans e2).trans e3)
    refine ⟨a, kvs, kk, rfl, h1, Tv.ex ty e3, z, ?_⟩
    have e : (valV kvs (.tup kk)).isSome = decide ((.tup kk : NestedKey) ∈ ks) := by
      rw [← valV_any, ← h2, Bool.eq_iff_iff, List.any_eq_true, decide_eq_true_iff, List.mem_map]
      exact ⟨fun ⟨p, hp, he⟩ => ⟨p, hp, of_decide_eq_true he⟩, fun ⟨p, hp, he⟩ => ⟨p, hp, decide_eq_true he⟩⟩
    show Q (.bl (!(valV kvs (.tup kk)).isSome)) H3
    rw [e]
    exact q H3 (e2.trans e3)
end
section
variable {P : Program} {w : World} {K : PySem.W.Frag} {mg : Str → Option Value} {base : Heap} {aN aO : Addr} {tC tM : Tok}
theorem sc__law_shares : FnScope ["_law_hand_here", "_law_sizes_here", "_law_parts", "_law_pattern", "_law_bottom", "_law_left", "_law_found", "_law_most", "_law_content", "_law_box_here", "_law_k"] ["_law_hand_here", "_law_sizes_here"] (defScope (top 66)) := ⟨rfl, rfl, rfl, by decide +kernel, rfl, by decide +kernel, by decide +kernel⟩
/-- a new dict of good shares, the hand drawn from -/
def spShares (P : Program) (w : World) (K : PySem.W.Frag) : Sp := fun vs H Q _ => ∃ (h ca : Addr) (s : V) (ns : List Nat), vs = [.ref h, s] ∧ HandC H h ca ∧ Tv K H s (eL (zL ns)) ∧ ns ∈ allSizes ∧ ∀ (b : Addr) (B : Int) (kvs : Bks) H', H b = none → DW P w K H' b (bK kvs) (bD B kvs) → Gd ns B kvs → ExB h H H' → HandC H' h ca → Q (.ref b) H'
theorem fn__law_shares (D : Df K mg "_law_shares" "_law_shares" (top 66) ["_law_hand_here", "_law_sizes_here"]) (T : Txt K mg aN aO tC tM) (G__law_patterns : Fn P w K mg base "_law_patterns" 1 ["_law_columns"] (spD K (fPats K))) (G__law_draw : Fn P w K mg base "_law_draw" 1 ["_law_hand_here", "_law_many"] (spDraw okDraw rDraw))
    (G__law_some : Fn P w K mg base "_law_some" 2 ["_law_hand_here", "_law_things"] spSome) (G__law_contents : Fn P w K mg base "_law_contents" 1 ["_law_sizes_here"] (spD K (fContents K))) (G__law_box : Fn P w K mg base "_law_box" 1 ["_law_pattern", "_law_content"] (spD K (fBox K))) (G__law_low : Fn P w K mg base "_law_low" 1 ["_law_top", "_law_bottom"] (spD K (fLow K))) :
    Fn P w K mg base "_law_shares" 3 ["_law_hand_here", "_law_sizes_here"] (spShares P w K) := by
  refine D.fn fun f fd F => ?_
  refine F.ok sc__law_shares (fun vs H Q E h => by obtain ⟨h, ca, s, ns, rfl, _⟩ := h; rfl) (fun cdv A outer st H vs Q E hr h => ?_)
  obtain ⟨h, ca, s, ns, rfl, hh, d1, hsz, k⟩ := h
  have hu64 := hr.units
  have hu20 : (A.deeper (envOfC "_law_shares" (defScope (top 66)) st.heap.objs.size f cdv)).units + 20 < cLine := by omega
  have hu9 : (A.deeper (envOfC "_law_shares" (defScope (top 66)) st.heap.objs.size f cdv)).units + 9 < cLine := by omega
  refine ⟨_, (pss_cons (ps_set (i := 2) sc__law_shares.nd rfl (.inr rfl) (pe_lc (own := [(("_law_pattern" : Str), 3)]) (g := gName 3) rfl sc__law_shares.nd (pi_list (pe_callF G__law_patterns (hr.mono (by decide)) (pa_cons (pe_callB (r := rLenS K) call_len_seq (by rfl) T.len boot_len (pa_cons (pv 1) pa_nil)) pa_nil))) (blkOk_by (own := [(("_law_pattern" : Str), 3)]) (N := ["_law_hand_here", "_law_sizes_here", "_law_parts", "_law_pattern", "_law_bottom", "_law_left", "_law_found", "_law_most", "_law_content", "_law_box_here", "_law_k"]) (sc := defScope (top 66)) (by decide +kernel)) (fun _ _ _ _ _ => (pg_name (i := 3) sc__law_shares.nd rfl (.inl rfl))) (fun _ _ _ _ _ => (pts_one (pt_cmpR op_lt (pe_callB (r := rLenS K) call_len_seq (by rfl) T.len boot_len (pa_cons (pv 3) pa_nil)) (pe_callB (r := rLenS K) call_len_seq (by rfl) T.len boot_len (pa_cons (pv 1) pa_nil)) (nomark _)))) (fun _ _ _ _ _ => (pv 3))))
      (pss_cons (ps_set (i := 4) sc__law_shares.nd rfl (.inl rfl) (pe_op op_add pe_int (pe_callF G__law_draw (hr.mono (by decide)) (pa_cons (pv 0) (pa_cons pe_int pa_nil)))))
      (pss_cons (ps_set (i := 5) sc__law_shares.nd rfl (.inl rfl) (pv 4))
      (pss_cons (ps_set (i := 6) sc__law_shares.nd rfl (.inl rfl) pe_ndNew)
      (pss_cons (ps_for PassesOwn.never rfl (pi_list (pe_callB (r := rSrtS P w K) (cr_sortedSet rfl hu20) (by rfl) T.sorted boot_sorted (pa_cons (pe_callTy (cr_setOfT rfl hu64) (by rfl) T.set boot_set (pa_cons (pe_lc (own := [(("_law_k" : Str), 10)]) (g := gName 10) (tt := tYes) rfl sc__law_shares.nd (pi_range1 (by rfl) T.range (pa_cons (pe_op op_add pe_int (pe_callF G__law_draw (hr.mono (by decide)) (pa_cons (pv 0) (pa_cons pe_int pa_nil)))) pa_nil)) (blkOk_by (own := [(("_law_k" : Str), 10)]) (N := ["_law_hand_here", "_law_sizes_here", "_law_parts", "_law_pattern", "_law_bottom", "_law_left", "_law_found", "_law_most", "_law_content", "_law_box_here", "_law_k"]) (sc := defScope (top 66)) (by decide +kernel)) (fun _ _ _ _ _ => (pg_name (i := 10) sc__law_shares.nd rfl (.inl rfl))) (fun _ _ _ _ _ => pts_nil) (fun _ _ _ _ _ => (pe_callF G__law_some (hr.mono (by decide)) (pa_cons (pv 0) (pa_cons (pv 2) pa_nil))))) pa_nil)) pa_nil))) (pg_name (i := 3) sc__law_shares.nd rfl (.inl rfl))
        (pss_cons (ps_set (i := 7) sc__law_shares.nd rfl (.inl rfl) (pe_callF G__law_draw (hr.mono (by decide)) (pa_cons (pv 0) (pa_cons (pe_op op_add (pv 5) pe_int) pa_nil))))
        (pss_cons (ps_set (i := 5) sc__law_shares.nd rfl (.inl rfl) (pe_op op_sub (pv 5) (pv 7)))
        (pss_one (ps_for PassesOwn.never rfl (pi_list (pe_callF G__law_contents (hr.mono (by decide)) (pa_cons (pv 1) pa_nil))) (pg_name (i := 8) sc__law_shares.nd rfl (.inl rfl))
          (pss_cons (ps_set (i := 9) sc__law_shares.nd rfl (.inl rfl) (pe_callF G__law_box (hr.mono (by decide)) (pa_cons (pv 3) (pa_cons (pv 8) pa_nil))))
          (pss_one (ps_if (pt_cmpR (op_ndNotIn hu9) (pv 9) (pv 6) (by rfl)) (pss_one (ps_ndPut hu9 (pv 6) (pv 9) (pe_callF G__law_low (hr.mono (by decide)) (pa_cons (pe_ifExp (pt_cmpR op_gt (pe_callF G__law_draw (hr.mono (by decide)) (pa_cons (pv 0) (pa_cons pe_int pa_nil))) pe_int (nomark _)) (pe_callF G__law_draw (hr.mono (by decide)) (pa_cons (pv 0) (pa_cons (pe_op op_add (pv 7) pe_int) pa_nil))) (pv 7)) (pa_cons (pv 4) pa_nil))) rfl)) pss_nil))))))))
      (pss_one (ps_ret (pv 6)))))))), ?_⟩
  have hcf := contents_facts ns hsz
  have hcol := hcf.2.2.2.2.2.1
  have hzl : ((zL ns).map NestedKey.num).length = ns.length := map_len (zL_len ns)
  have h64 : (contents ns).length ≤ 64 := by rw [hcf.2.1]; exact hcf.2.2.1
  obtain ⟨hp0, hp32⟩ := parts_pos ns.length hcol.1 hcol.2
  -- the patterns of a part
  have hL := evp_lcD (K := K) (σ := start ["_law_hand_here", "_law_sizes_here", "_law_parts", "_law_pattern", "_law_bottom", "_law_left", "_law_found", "_law_most", "_law_content", "_law_box_here", "_law_k"] [.ref h, s]) (H := H) (te := tVar 3) (g := gName 3) (tt := tTest (tOp (rI0 fun i j => .bl (decide (i < j))) (tCB (rLenS K) (tCons (tVar 3) tNil)) (tCB (rLenS K) (tCons (tVar 1) tNil)))) (vs := [3]) (wi := iList K (tCall (spD K (fPats K)) [] EN (tCons (tCB (rLenS K) (tCons (tVar 1) tNil)) tNil)))
    (Y := fun i v H => ∃ d, ((pats ns.length).map eL)[i]? = some d ∧ Tv K H v d) (pats ns.length) (fun p => decide (p.length < ns.length)) eL
    (by have := evi_listD (evp_callD (K := K) (f := fPats K) (E := EN) (σ := start ["_law_hand_here", "_law_sizes_here", "_law_parts", "_law_pattern", "_law_bottom", "_law_left", "_law_found", "_law_most", "_law_content", "_law_box_here", "_law_k"] [.ref h, s]) (H := H) (ead_cons (evd_i (Ev.castI (ev_lenD (evd_var (i := 1) rfl d1)) (j := (ns.length : Int)) (by rw [hzl]))) ead_nil) ⟨ns.length, rfl, by omega, rfl⟩); rw [List.length_map] at this; exact this)
    (by have := (pats_facts ns.length hcol.1).2.2.2.2.2.2; omega) (fun i p x H1 hp e1 ⟨d, hd', tv⟩ => by
      rw [List.getElem?_map, hp] at hd'
      cases hd'
      refine gvg_name ⟨rfl, et_is (et_test (ev_op (ev_lenD (evd_var rfl tv)) (ev_lenD (evd_var rfl (d1.ex e1))) rv_I0)) ?_, fun _ => evd_var rfl tv⟩
      rw [hzl, List.length_map, decide_eq_decide]
      omega)
  refine qp_asg hL fun v H1 e1 ⟨l, xs, ev, hl1, tx1⟩ => ?_
  subst ev
  have hh1 := hh.ex e1
  -- the bottom
  refine q_addDraw (m := 12) rfl hh1 ev_c (by decide) (by decide) fun r H2 hr2 eb2 hh2 => ?_
  obtain ⟨B, hB⟩ : ∃ B : Int, B = 1 + (r : Int) := ⟨_, rfl⟩
  rw [← hB]
  have nl : l ≠ h := ld_ne hh1 hl1 tx1
  have k02 : KpH h H H2 := (KpH.ex e1).trans (KpH.draw hh1 eb2)
  have hl2 := eb2 _ _ nl hl1
  have tx2 := tx1.kp (KpH.draw hh1 eb2).1
  refine q_asg (Ev.castI (ev_var rfl) (j := ((r + 1 : Nat) : Int)) (by omega)) fun H3 e3 => ?_
  refine qp_asg (evp_ndNew (P := P) (w := w) (K := K)) fun v4 H4 e4 ⟨D, ev4, f4, hD4⟩ => ?_
  subst ev4
  have e34 := e3.trans e4
  have eb4 : ExB h H H4 := ((ExB.of e1).trans eb2).trans (.of e34)
  have fD : H D = none := by
    cases hx : H D with
    | none => rfl
    | some o =>
      by_cases hn : D = h
      · subst hn
        obtain ⟨xs, hx⟩ := (hh2.ex e3).lst
        rw [f4] at hx
        cases hx
      · have := (((ExB.of e1).trans eb2).trans (.of e3)) _ _ hn hx
        rw [f4] at this
        cases this
  have hh4 := hh2.ex e34
  have nD : D ≠ h := fun z => by
    subst z
    obtain ⟨φ, hφ⟩ := hD4.some
    obtain ⟨xs, hx⟩ := hh4.lst
    rw [hx] at hφ
    cases hφ
  refine q_picks (l := l) (ps := parts ns.length) rfl rfl hh4 (e34 _ _ hl2) (tx2.ex e34) hp0 (by omega) fun lq ys qs H5 hq tq hqn hqm hql nq eb5 hh5 =>
    ⟨fun i σ' H' => ∃ (x3 x7 x8 x9 x10 : Option V) (kvs : Bks) (lf : Nat), σ' = [some (.ref h), some s, some (.ref l), x3, some (.int B), some (.int (lf : Int)), some (.ref D), x7, x8, x9, x10] ∧ ExB h H H' ∧ HandC H' h ca ∧ KpH h H5 H' ∧ DW P w K H' D (bK kvs) (bD B kvs) ∧ (lf : Int) ≤ B ∧ ShI ns B (qs.take i) lf kvs, ?_, ?_, ?_, ?_⟩
  · refine ⟨none, none, none, none, none, [], r + 1, rfl, eb4.trans eb5, hh5, KpH.refl h H5, hD4.exB nD eb5 (KpH.draw hh4 eb5).1, by omega, List.nodup_nil, (fun x hx => by cases hx), (fun x hx => by cases hx), fun c hc => ?_, Nat.zero_le _⟩
    show (0 : Int) ≤ _
    omega
  · rintro i σ' H' _ ⟨_, _, _, _, _, _, _, _, _, _, kp, _⟩
    exact sq_of (kp.2 lq ys nq hq)
  · rintro i x σ' H6 hx ⟨x3, x7, x8, x9, x10, kvs, lf, rfl, ebH, hh6, k6, hD6, hlf, sI⟩
    obtain ⟨d, hd, tv⟩ := tq.get hx
    rw [List.getElem?_map] at hd
    obtain ⟨pp, hpp, rfl⟩ := Option.map_eq_some_iff.mp hd
    have tv6 := tv.kp k6.1
    obtain ⟨hpat, hplt⟩ := List.mem_filter.mp (hqm pp (List.mem_of_getElem? hpp))
    have gp := pats_ok hcol.1 hpat
    have htk : qs.take (i + 1) = qs.take i ++ [pp] := by rw [List.take_add_one, hpp]; rfl
    have hnp : pp ∉ qs.take i := by
      have h1 : (qs.take (i + 1)).Nodup := hqn.sublist (List.take_sublist _ _)
      rw [htk] at h1
      exact fun hm => (List.nodup_append.mp h1).2.2 _ hm pp (by simp) rfl
    have d5 : Tv K H5 s (eL (zL ns)) := d1.kp ((k02.trans (.ex e34)).trans (KpH.draw hh4 eb5)).1
    show tSeq _ _ _ (_ : L2.St) H6
    refine q_draw (m := lf + 1) (i := 7) rfl hh6 (Ev.castI (ev_op (ev_var rfl) ev_c rv_I0) (by omega)) (by omega) (by omega) fun m H7 hm eb7 hh7 => ?_
    have k7 := KpH.draw hh6 eb7
    have hD7 := hD6.exB nD eb7 k7.1
    refine q_asg (Ev.castI (ev_op (ev_var rfl) (ev_var rfl) rv_I0) (j := ((lf - m : Nat) : Int)) (by omega)) fun H8 e8 => ?_
    have k58 : KpH h H5 H8 := (k6.trans k7).trans (.ex e8)
    refine sp_forLH (ps := contents ns) (evp_callD (f := fContents K) (E := EN) (ead_cons (evd_var (i := 1) rfl (d5.kp k58.1)) ead_nil) ⟨ns, rfl, hsz, rfl⟩) (hh7.ex e8)
      (fun H9 j σ' H' => ∃ (x8 x9 : Option V) (new : Bks), σ' = [some (.ref h), some s, some (.ref l), some x, some (.int B), some (.int ((lf - m : Nat) : Int)), some (.ref D), some (.int (m : Int)), x8, x9, x10] ∧ ExB h H H' ∧ HandC H' h ca ∧ KpH h H9 H' ∧ KpH h H5 H' ∧ DW P w K H' D (bK (kvs ++ new)) (bD B (kvs ++ new)) ∧ NewI ns pp m j new)
      (fun H9 e9 => ⟨x8, x9, [], rfl, (ebH.trans eb7).trans (.of (e8.trans e9)), hh7.ex (e8.trans e9), KpH.refl h H9, k58.trans (.ex e9), by rw [List.append_nil]; exact hD7.ex (e8.trans e9), List.nodup_nil, (fun x hx => by cases hx), (fun x hx => by cases hx), Nat.zero_le _⟩)
      (fun H9 j σ' H' ⟨_, _, _, _, _, _, kp, _⟩ => kp) ?_ ?_
    · rintro H9 j cc y σ' H10 e9 hc ⟨x8, x9, new, rfl, ebH10, hh10, k9, k510, hD10, nI⟩ tvc
      have hco := con_ok hsz (List.mem_of_getElem? hc)
      show tSeq _ _ _ (_ : L2.St) H10
      refine qp_asg (evp_callD (f := fBox K) (ead_cons (evd_var rfl (tv.kp k510.1)) (ead_cons (evd_var rfl tvc) ead_nil)) ⟨pp, cc, rfl, pat_in gp.1 hco.1, by omega, rfl⟩) fun vb H11 e11 hb => ?_
      have hD11 := hD10.ex e11
      have hjl : j < (contents ns).length := (List.getElem?_eq_some_iff.mp hc).1
      have hlen : (bK (kvs ++ new)).length < 100000 := by
        unfold bK
        rw [List.length_map, List.length_append]
        have h1 := sI.len
        have h2 := nI.len
        rw [List.length_take] at h1
        omega
      refine s_when (et_test (ev_ndNot (kk := [eL pp, eL (proj pp cc)]) (evd_var rfl hb) (ev_var rfl) hD11.r (by show (eB (pp, proj pp cc)).depth ≤ 8; rw [depth_eB]; decide))) (fun hb12 H12 e12 => ?_) fun hb12 H12 e12 => ?_
      · have hnin : (eB (pp, proj pp cc)) ∉ bK (kvs ++ new) := by
          have h1 : (!decide ((eB (pp, proj pp cc)) ∈ bK (kvs ++ new))) = true := hb12
          simpa using h1
        have hh12 := (hh10.ex e11).ex e12
        have hD12 := hD11.ex e12
        -- the put itself
        have put : ∀ (Dst : Ends), (∀ H14 new', ExB h H H14 → HandC H14 h ca → KpH h H9 H14 → KpH h H5 H14 → DW P w K H14 D (bK (kvs ++ new')) (bD B (kvs ++ new')) → NewI ns pp m (j + 1) new' → Dst.nx [some (.ref h), some s, some (.ref l), some x, some (.int B), some (.int ((lf - m : Nat) : Int)), some (.ref D), some (.int (m : Int)), some y, some vb, x10] H14) → ∀ (kk : Nat) H13, kk ≤ m → ExB h H12 H13 → HandC H13 h ca → sNdPut P w K (tVar 6) (tVar 9) (tCall (spD K (fLow K)) [] EN (tCons (L2.tC (.int (kk : Int))) (tCons (tVar 4) tNil))) Dst [some (.ref h), some s, some (.ref l), some x, some (.int B), some (.int ((lf - m : Nat) : Int)), some (.ref D), some (.int (m : Int)), some y, some vb, x10] H13 := fun Dst hnx kk H13 hkk eb13 hh13 => by
          have k13 := KpH.draw hh12 eb13
          have hD13 := hD12.exB nD eb13 k13.1
          refine sp_putNew (kk := [eL pp, eL (proj pp cc)]) hD13 hnin (d := eF (lw (kk : Int) B)) (evp_callD (f := fLow K) (ead_cons (evd_i ev_c) (ead_cons (evd_i (ev_var rfl)) ead_nil)) ⟨(kk : Int), B, rfl, by omega, by omega, rfl⟩) (ev_var rfl) (evd_var rfl (Tv.kp ((KpH.ex e12).trans k13).1 hb)) (by show (eB (pp, proj pp cc)).depth ≤ 8; rw [depth_eB]; decide) hlen fun H14 eb14 kp14 hD14 => ?_
          obtain ⟨φ, hφ⟩ := hD13.some
          have kh14 : KpH h H13 H14 := KpH.of hφ eb14 kp14
          have kh : KpH h H10 H14 := (((KpH.ex e11).trans (.ex e12)).trans k13).trans kh14
          refine hnx H14 (new ++ [((pp, proj pp cc), (kk : Int))]) (ExB.late fD ((ebH10.trans (.of (e11.trans e12))).trans eb13) eb14) (hh13.exB hφ eb14) (k9.trans kh) (k510.trans kh) ?_ ⟨?_, ?_, ?_, ?_⟩
          · rw [← List.append_assoc]
            have m1 : bK ((kvs ++ new) ++ [((pp, proj pp cc), (kk : Int))]) = bK (kvs ++ new) ++ [.tup [eL pp, eL (proj pp cc)]] := List.map_append
            have m2 : bD B ((kvs ++ new) ++ [((pp, proj pp cc), (kk : Int))]) = bD B (kvs ++ new) ++ [eF (lw (kk : Int) B)] := List.map_append
            rw [m1, m2]
            exact hD14
          · rw [List.map_append]
            refine List.nodup_append.mpr ⟨nI.nd, by simp, fun a ha b hb e => hnin ?_⟩
            have hb' : b = (pp, proj pp cc) := by simpa using hb
            obtain ⟨z, hz, ez⟩ := List.mem_map.mp ha
            exact List.mem_map.mpr ⟨z, List.mem_append_right _ hz, by show eB z.1 = _; rw [ez, e, hb']⟩
          · intro z hz
            rcases List.mem_append.mp hz with hz | hz
            · exact nI.key z hz
            · have : z = ((pp, proj pp cc), (kk : Int)) := by simpa using hz
              rw [this]
              exact ⟨rfl, cc, List.mem_of_getElem? hc, rfl⟩
          · intro z hz
            rcases List.mem_append.mp hz with hz | hz
            · exact nI.num z hz
            · have : z = ((pp, proj pp cc), (kk : Int)) := by simpa using hz
              rw [this]
              exact ⟨by show (0 : Int) ≤ (kk : Int); omega, by show (kk : Int) ≤ (m : Int); omega⟩
          · rw [List.length_append]
            have := nI.len
            show new.length + 1 ≤ j + 1
            omega
        refine sp_putIf ?_
        have hnx := fun H14 new' (a : ExB h H H14) (b : HandC H14 h ca) (c : KpH h H9 H14) (d : KpH h H5 H14) (e : DW P w K H14 D (bK (kvs ++ new')) (bD B (kvs ++ new'))) (g : NewI ns pp m (j + 1) new') => (show ∃ (x8 x9 : Option V) (new : Bks), ([some (.ref h), some s, some (.ref l), some x, some (.int B), some (.int ((lf - m : Nat) : Int)), some (.ref D), some (.int (m : Int)), some y, some vb, x10] : L2.St) = [some (.ref h), some s, some (.ref l), some x, some (.int B), some (.int ((lf - m : Nat) : Int)), some (.ref D), some (.int (m : Int)), x8, x9, x10] ∧ ExB h H H14 ∧ HandC H14 h ca ∧ KpH h H9 H14 ∧ KpH h H5 H14 ∧ DW P w K H14 D (bK (kvs ++ new)) (bD B (kvs ++ new)) ∧ NewI ns pp m (j + 1) new from ⟨some y, some vb, new', rfl, a, b, c, d, e, g⟩)
        refine t_ifDraw (m := 3) rfl hh12 ev_c (by decide) (by decide) (fun H13 eb13 hh13 => ?_) fun H13 eb13 hh13 => ?_
        · refine t_draw (m := m + 1) rfl hh13 (Ev.castI (ev_op (ev_var rfl) ev_c rv_I0) (by omega)) (by omega) (by omega) fun kk H14 hk eb14 hh14 => ?_
          exact put _ hnx kk H14 (by omega) (eb13.trans eb14) hh14
        · exact ⟨.int (m : Int), rfl, put _ hnx m H13 (Nat.le_refl _) eb13 hh13⟩
      · have e1012 := e11.trans e12
        exact ⟨some y, some vb, new, rfl, ebH10.trans (.of e1012), hh10.ex e1012, k9.trans (.ex e1012), k510.trans (.ex e1012), hD10.ex e1012, nI.nd, nI.key, nI.num, by have := nI.len; omega⟩
    · rintro H9 σ' H10 e9 ⟨y8, y9, new, rfl, ebH10, hh10, k9, k510, hD10, nI⟩
      refine ⟨some x, some (.int (m : Int)), y8, y9, x10, kvs ++ new, lf - m, rfl, ebH10, hh10, k510, hD10, by omega, ?_⟩
      rw [htk]
      exact sI.step nI h64 hnp (by omega)
  · rintro σ' H6 ⟨x3, x7, x8, x9, x10, kvs, lf, rfl, ebH, hh6, k6, hD6, hlf, sI⟩
    have hyl : ys.length = qs.length := by rw [tq.length, List.length_map]
    rw [hyl, List.take_length] at sI
    refine s_ret (ev_var rfl) fun H7 e7 => k D B kvs H7 fD (hD6.ex e7) (sI.gd hsz (by omega) hqm hql) (ebH.trans (.of e7)) (hh6.ex e7)
end
end FM
/-! The hashes of boxes are apart. -/
namespace FM
open PySem PySem.Spec PyProof.Rows L2 Evl
def hL (l : List Int) : Int := reduceHash (PySem.Builtin.Tuple.tupleHashOf (l.map hashInt))
def hB (b : Bx) : Int := reduceHash (PySem.Builtin.Tuple.tupleHashOf [hL b.1, hL b.2])
theorem hashes_num (w : World) : ∀ l : List Int, NestedKey.hashes w (l.map NestedKey.num) = l.map hashInt
  | [] => rfl
  | i :: l => by
    show NestedKey.hash w (.num i) :: NestedKey.hashes w (l.map NestedKey.num) = _
    rw [hashes_num w l]
    rfl
theorem hash_eB (w : World) (b : Bx) : (eB b).hash w = hB b := by
  show reduceHash (PySem.Builtin.Tuple.tupleHashOf [reduceHash (PySem.Builtin.Tuple.tupleHashOf (NestedKey.hashes w (b.1.map NestedKey.num))), reduceHash (PySem.Builtin.Tuple.tupleHashOf (NestedKey.hashes w (b.2.map NestedKey.num)))]) = _
  rw [hashes_num, hashes_num]
  rfl
def sub (ns : List Nat) (p : List Int) : List Nat := p.map fun i => ns.getD i.toNat 0
def boxes (ns : List Nat) : List Bx := (parts ns.length).flatMap fun p => (contents (sub ns p)).map fun d => (p, d)
theorem boxes_in : ∀ ns ∈ allSizes, ((parts ns.length).all fun p => (contents ns).all fun c => (contents (sub ns p)).contains (proj p c)) = true := by decide +kernel
theorem boxes_apart : ∀ ns ∈ allSizes, ((boxes ns).map hB).Nodup := by decide +kernel
end FM
/-! What the law itself needs: dicts copied and compared, habits compared. -/
namespace FM
open PySem PySem.Spec PyProof.Rows L2 Evl
def rNdDict (P : Program) (w : World) (K : PySem.W.Frag) : List V → Hp → VK → Prop := fun xs H Q => ∃ (a : Addr) (l : List Ent), xs = [.ref a] ∧ Rd H a (NDO P w a l) ∧ Dk K H l ∧ (∀ e ∈ l, ∃ ks, e.1 = .tup ks) ∧ (l.map fun e => e.1.hash w).Nodup ∧ ∀ p, H p = none → Q (.ref p) (upd H p (NDO P w p l))
def rNdPairs (P : Program) (w : World) (K : PySem.W.Frag) : List V → Hp → VK → Prop := fun xs H Q => ∃ (a : Addr) (vs : List V) (l : List Ent), xs = [.ref a] ∧ SqL K H a vs ∧ PrE K H vs l ∧ Dk K H l ∧ (l.map (·.1)).Nodup ∧ ∀ p, H p = none → Q (.ref p) (upd H p (NDO P w p l))
def rNdNe (P : Program) (w : World) (K : PySem.W.Frag) : R2 := fun x y H Q => SameD P w K x y H ∧ Q (.bl false) H
theorem op_neM {X : Cx} {k : Nat} {f : Addr} {ps : List Str} {F : List V → Hp → VP → Prop} (h : Mp X.prog X.w X.K X.mg X.base f k ps (spG F)) (hr : Room (k + 1) X.A) : OpR X (compareOp .NotEq) (rNeI X.K f F) :=
  let ⟨fd, h1, h2⟩ := h.ex
  op_neI h1 h2 hr
/-- a dict of boxes -/
def IsDct (P : Program) (w : World) (K : PySem.W.Frag) (B : Int) (m : Bks) : VP := fun v H => ∃ a, v = .ref a ∧ DD P w K H a (bK m) (bD B m)
theorem sty_Dct {P : Program} {w : World} {K : PySem.W.Frag} {B : Int} {m : Bks} : Sty (IsDct P w K B m) := fun _ _ _ e ⟨a, h1, h2⟩ => ⟨a, h1, h2.ex e⟩
section
variable {P : Program} {w : World} {K : PySem.W.Frag} {σ : L2.St} {H : Hp} {te ta tb : TE}
theorem evp_ndDict {a : Addr} {ks ds : List NestedKey} (h : Ev te σ H (.ref a)) (hD : DW P w K H a ks ds) (ht : ∀ k ∈ ks, ∃ kk, k = .tup kk) (hn : (ks.map fun k => k.hash w).Nodup) : EvP (tCB (rNdDict P w K) (tCons te tNil)) σ H (fun v H2 => ∃ D, v = .ref D ∧ H D = none ∧ DW P w K H2 D ks ds) := fun H1 e1 Q q =>
  h H1 e1 _ fun H2 e2 => by
    obtain ⟨l, l1, l2, l3, l4⟩ := dw_obj (hD.ex (e1.trans e2))
    have hl : (l.map fun e => e.1) = ks := by
      rw [← l3]
      unfold prs
      rw [List.map_map]
      rfl
    refine ⟨a, l, rfl, .inl l1, l2, fun e he => ht _ (by rw [← hl]; exact List.mem_map.mpr ⟨e, he, rfl⟩), ?_, fun p hp => ?_⟩
    · have : (l.map fun e => e.1.hash w) = ks.map fun k => k.hash w := by
        rw [← hl, List.map_map]
        rfl
      rw [this]
      exact hn
    · have e3 : Ex H2 (upd H2 p (NDO P w p l)) := Ex.new hp
      exact q _ _ (e2.trans e3) ⟨p, rfl, fresh_back e1 (fresh_back e2 hp), prs l, ⟨l, upd_same, l2.kp (.ex e3), rfl⟩, l3, l4.ex e3⟩
theorem pair_ents {B : Int} : ∀ {xs : Bks} {ys : List V}, TvA K H ys (xs.map fun x => NestedKey.tup [eB x.1, eF (lw x.2 B)]) → ∃ l : List Ent, PrE K H ys l ∧ Dk K H l ∧ l.map (·.1) = bK xs ∧ TvA K H (l.map fun e => e.2.2) (bD B xs)
  | [], ys, h => by
    cases h
    exact ⟨[], ⟨rfl, fun i e h => by simp at h⟩, (fun x hx => by cases hx), rfl, .nil⟩
  | x :: xs, ys, h => by
    cases h with
    | cons h1 h2 =>
      obtain ⟨l, ⟨p1, p2⟩, k1, m1, t1⟩ := pair_ents h2
      obtain ⟨T, zs, rfl, hsq, hta⟩ := Tv.tupI h1
      obtain ⟨u, z, rfl, tu, tz⟩ := tva2 hta
      obtain ⟨b, _, rfl, _, _⟩ := Tv.tupI tu
      refine ⟨(eB x.1, b, z) :: l, ⟨by rw [List.length_cons, List.length_cons, p1], fun i e h => ?_⟩, fun e he => ?_, by rw [List.map_cons, m1]; rfl, ?_⟩
      · cases i with
        | zero =>
          simp at h
          subst h
          exact ⟨T, rfl, hsq⟩
        | succ i => exact p2 i e (by simpa using h)
      · rcases List.mem_cons.mp he with e1 | he
        · subst e1
          exact ⟨tu, by rw [depth_eB]; decide⟩
        · exact k1 e he
      · rw [List.map_cons]
        exact .cons tz t1
theorem evp_ndPairs {B : Int} {xs : Bks} (h : EvP te σ H (IsLD K (xs.map fun x => NestedKey.tup [eB x.1, eF (lw x.2 B)]))) (hn : (xs.map (·.1)).Nodup) : EvP (tCB (rNdPairs P w K) (tCons te tNil)) σ H (fun v H2 => ∃ D, v = .ref D ∧ H D = none ∧ DW P w K H2 D (bK xs) (bD B xs)) := fun H1 e1 Q q =>
  h H1 e1 _ fun v H2 e2 ⟨a, ys, ev, hy, ty⟩ => by
    obtain ⟨l, l1, l2, l3, l4⟩ := pair_ents ty
    refine ⟨a, ys, l, by rw [ev], sq_of hy, l1, l2, by rw [l3]; exact bK_nd hn, fun p hp => ?_⟩
    have e3 : Ex H2 (upd H2 p (NDO P w p l)) := Ex.new hp
    refine q _ _ (e2.trans e3) ⟨p, rfl, fresh_back e1 (fresh_back e2 hp), prs l, ⟨l, upd_same, l2.kp (.ex e3), rfl⟩, ?_, ?_⟩
    · unfold prs
      rw [List.map_map, ← l3]
      rfl
    · have : (prs l).map (·.2) = l.map fun e => e.2.2 := by
        unfold prs
        rw [List.map_map]
        rfl
      rw [this]
      exact l4.ex e3
/-- a reading while d is locked -/
theorem evp_lockE {t : TE} {R : VP} {R' : Hp → Obj → VP} {d : Addr} {u : HO} (hd : H d = some u) (mu : Mut (some u)) (h : ∀ H1 od, Ex H H1 → EvP t σ (upd H1 d (.frz od u)) (R' H1 od)) (hR : ∀ H1 od v H', Ex H H1 → Ex (upd H1 d (.frz od u)) H' → R' H1 od v H' → R v (upd H' d u)) : EvP (tLockE t) σ H R := fun H1 a Q q =>
  ⟨d, u, a _ _ hd, mu, fun od => h H1 od a _ (Ex.refl _) _ fun v H' e p => ⟨e _ _ upd_same, q v _ (ex_unlock (a _ _ hd) (Ex.refl _) e) (hR H1 od v H' a e p)⟩⟩
theorem same_of {B : Int} {m m' : Bks} {a b : Addr} (h1 : DD P w K H a (bK m) (bD B m)) (h2 : DD P w K H b (bK m') (bD B m')) (n1 : (m.map (·.1)).Nodup) (n2 : (m'.map (·.1)).Nodup) (h : ∀ x, x ∈ m ↔ x ∈ m') : SameD P w K (.ref a) (.ref b) H := by
  have hp := perm_of (nodup_of_keys n1) (nodup_of_keys n2) h
  obtain ⟨ka, a1, a2, a3⟩ := h1
  obtain ⟨kb, b1, b2, b3⟩ := h2
  have la : ka.length = m.length := by
    have := congrArg List.length a2
    rw [List.length_map, List.length_map] at this
    exact this
  have lb : kb.length = m'.length := by
    have := congrArg List.length b2
    rw [List.length_map, List.length_map] at this
    exact this
  refine ⟨a, b, ka, kb, rfl, rfl, a1, b1, by rw [la, lb, hp.length_eq], fun k v hkv => ?_⟩
  obtain ⟨i, hi, ei⟩ := List.getElem_of_mem hkv
  have hki : ka[i]? = some (k, v) := by rw [List.getElem?_eq_getElem hi, ei]
  have h3 : (bK m)[i]? = some k := by rw [← a2, List.getElem?_map, hki]; rfl
  obtain ⟨x, hx, rfl⟩ := bK_get h3
  have hv : (ka.map (·.2))[i]? = some v := by rw [List.getElem?_map, hki]; rfl
  obtain ⟨d, hd, tv⟩ := a3.get hv
  rw [bD_at hx] at hd
  cases hd
  obtain ⟨j, hj, ej⟩ := List.getElem_of_mem ((h x).mp (List.mem_of_getElem? hx))
  have hmj : m'[j]? = some x := by rw [List.getElem?_eq_getElem hj, ej]
  obtain ⟨u, d', hu, hd', tu⟩ := dd_val (bK_nd n2) b2 b3 (bK_at hmj)
  rw [bD_at hmj] at hd'
  cases hd'
  exact ⟨u, _, hu, tv, tu, by rw [depth_eF]; decide⟩
theorem ev_ndNe {B : Int} {m m' : Bks} (ha : EvP ta σ H (IsDct P w K B m)) (hb : EvP tb σ H (IsDct P w K B m')) (n1 : (m.map (·.1)).Nodup) (n2 : (m'.map (·.1)).Nodup) (h : ∀ x, x ∈ m ↔ x ∈ m') : Ev (tOp (rNdNe P w K) ta tb) σ H (.bl false) :=
  (evp_op (P' := IsV (.bl false)) ha sty_Dct hb fun x y H1 _ ⟨a, ea, pa⟩ ⟨b, eb, pb⟩ Q q => by
    subst ea
    subst eb
    exact ⟨same_of pa pb n1 n2 h, q _ H1 (Ex.refl H1) rfl⟩).ev
/-- clear -/
theorem q_clear {D : Ends} {tz : TS} {i : Nat} {a : Addr} {ks ds : List NestedKey} (hσ : σ[i]? = some (some (.ref a))) (hD : DW P w K H a ks ds) (k : ∀ H', ExB a H H' → Kp H H' → tz D σ H') : tSeq (tDrop (tNdM0 P w (rNdClear P w) (tVar i))) tz D σ H := by
  obtain ⟨l, l1, l2, l3, l4⟩ := dw_obj hD
  exact ⟨.ref a, hσ, ⟨a, l, rfl, .inl l1⟩, a, l, rfl, rfl, l1, k _ ExB.upd (Kp.upd (nrd_ext l1))⟩
/-- (d,) * n -/
theorem evd_rep {d : NestedKey} {n : Nat} (ha : EvD K ta σ H (.tup [d])) (hb : Ev tb σ H (.int (n : Int))) (h1 : 2 ≤ n) (h2 : n ≤ 1000) : EvD K (tOp (rRepT K) ta tb) σ H (.tup (List.replicate n d)) :=
  evp_op ha sty_D (evp_v hb) fun x y H1 _ px py Q q => by
    obtain ⟨t, xs, rfl, hsq, hta⟩ := Tv.tupI px
    obtain ⟨u, rfl, tu⟩ := tva1 hta
    have py' : y = .int (n : Int) := py
    subst py'
    clear py
    refine ⟨t, n, [u], rfl, rfl, hsq, by simp, by omega, by omega, by show 1 ≤ 1000; decide, fun p hp => ?_⟩
    have en : ((n : Int)).toNat = n := Int.toNat_natCast n
    have er : (List.replicate n [u]).flatten = List.replicate n u := by
      clear q hp h1 h2 hb en
      induction n with
      | zero => rfl
      | succ n ih => rw [List.replicate_succ, List.flatten_cons, ih, List.replicate_succ]; rfl
    rw [en, er]
    have e3 := Ex.new (o := .tup (List.replicate n u)) hp
    refine q _ _ e3 (.tup (st_of upd_same) ?_)
    have tu3 := tu.ex e3
    clear q e3 h1 h2 hb en er
    generalize upd H1 p _ = H9 at tu3
    induction n with
    | zero => exact .nil
    | succ n ih =>
      rw [List.replicate_succ, List.replicate_succ]
      exact .cons tu3 ih
end
end FM
/-! Calls that the law makes. -/
namespace FM
open PySem PySem.Spec PyProof.Rows L2 Evl
section
variable {P : Program} {w : World} {K : PySem.W.Frag} {mg : Str → Option Value} {σ : L2.St} {H H0 H' : Hp} {te ta tb ts td : TE} {CH CR fK fI fR fE : Addr} {ns : List Nat} {B : Int} {kvs : Bks} {rs : List Row}
theorem HabN.ex {a C : Addr} (h : HabN P w K H0 H a C ns B rs) (e : Ex H H') : HabN P w K H0 H' a C ns B rs :=
  let ⟨d, dx, s, r, h0, h1, h2, h3, h4⟩ := h
  ⟨d, dx, s, r, h0, e _ _ h1, h2.ex e, h3.ex e, h4.ex e⟩
def IsDw (P : Program) (w : World) (K : PySem.W.Frag) (B : Int) (kvs : Bks) : VP := fun v H => ∃ a, v = .ref a ∧ DW P w K H a (bK kvs) (bD B kvs)
theorem sty_Dw : Sty (IsDw P w K B kvs) := fun _ _ _ e ⟨a, h1, h2⟩ => ⟨a, h1, h2.ex e⟩
def IsHb (P : Program) (w : World) (K : PySem.W.Frag) (C0 : Addr → Prop) (ns : List Nat) (B : Int) (rs : List Row) : VP := fun v H => ∃ a C, v = .ref a ∧ C0 C ∧ Hab P w K H a C ns B rs
theorem sty_Hb {C0 : Addr → Prop} : Sty (IsHb P w K C0 ns B rs) := fun _ _ _ e ⟨a, C, h1, h2, h3⟩ => ⟨a, C, h1, h2, h3.ex e⟩
/-- the boxes told -/
def IsSh (P : Program) (w : World) (K : PySem.W.Frag) (B : Int) (kvs : Bks) : VP := fun v H => ∃ a m, v = .ref a ∧ DD P w K H a (bK m) (bD B m) ∧ (m.map (·.1)).Nodup ∧ ∀ x, x ∈ m ↔ x ∈ kvs ∧ x.2 ≠ 0
theorem sty_Sh : Sty (IsSh P w K B kvs) := fun _ _ _ e ⟨a, m, h1, h2, h3⟩ => ⟨a, m, h1, h2.ex e, h3⟩
theorem evp_habitOf (hs : EvD K ts σ H (eL (zL ns))) (hd : EvP td σ H (IsDw P w K B kvs)) (g : Gd ns B kvs) : EvP (tCall (spG (fHabitOf P w K CR)) [] EN (tCons ts (tCons td tNil))) σ H (fun v H2 => ∃ p, v = .ref p ∧ H p = none ∧ HabN P w K H H2 p CR ns B (rowsOf ns B kvs)) :=
  evp_call (F := fHabitOf P w K CR) (eap_cons hs sty_D (eap_cons hd sty_Dw eap_nil)) fun vs H2 e2 ⟨x, ws, q1, h1, y, ws', q2, ⟨b, eb, h2⟩, q3⟩ => ⟨_, ⟨x, b, ns, B, kvs, by rw [q1, q2, q3, eb], h1, h2, g, rfl⟩, fun v H3 e3 ⟨p, ep, fp, hp⟩ => ⟨p, ep, fresh_back e2 fp, hp.back e2⟩⟩
theorem evp_boxShares (ht : EvP te σ H (IsHb P w K (fun C => C = CH ∨ C = CR) ns B (rowsOf ns B kvs))) (g : Gd ns B kvs) : EvP (tCall (spG (fBoxShares P w K CH CR)) [] EN (tCons te tNil)) σ H (fun v H2 => ∃ b m, v = .ref b ∧ H b = none ∧ DW P w K H2 b (bK m) (bD B m) ∧ (m.map (·.1)).Nodup ∧ ∀ x, x ∈ m ↔ x ∈ kvs ∧ x.2 ≠ 0) :=
  evp_call (F := fBoxShares P w K CH CR) (eap_cons ht sty_Hb eap_nil) fun vs H2 e2 ⟨x, ws, q1, ⟨a, C1, ea, hC, h1⟩, q2⟩ => ⟨_, ⟨a, C1, ns, B, kvs, by rw [q1, q2, ea], hC, h1, g, rfl⟩, fun v H3 e3 ⟨b, m, eb, fb, hb⟩ => ⟨b, m, eb, fresh_back e2 fb, hb⟩⟩
theorem evp_boxSharesS (ht : EvP te σ H (IsHb P w K (fun C => C = CH ∨ C = CR) ns B (rowsOf ns B kvs))) (g : Gd ns B kvs) : EvP (tCall (spG (fBoxShares P w K CH CR)) [] EN (tCons te tNil)) σ H (IsSh P w K B kvs) := (evp_boxShares ht g).imp fun v H2 _ ⟨b, m, h1, h2, h3, h4⟩ => ⟨b, m, h1, h3.r, h4⟩
theorem ev_ndNeS (ha : EvP ta σ H (IsSh P w K B kvs)) (hb : EvP tb σ H (IsSh P w K B kvs)) : Ev (tOp (rNdNe P w K) ta tb) σ H (.bl false) :=
  (evp_op (P' := IsV (.bl false)) ha sty_Sh hb fun x y H1 _ ⟨a, m, ea, pa, na, ma⟩ ⟨b, m', eb, pb, nb, mb⟩ Q q => by
    subst ea
    subst eb
    exact ⟨same_of pa pb na nb fun x => by rw [ma, mb], q _ H1 (Ex.refl H1) rfl⟩).ev
theorem ev_habNe (C : TxC K mg CH CR fK fI fR fE) (ha : EvP ta σ H (IsHb P w K (fun C => C = CR) ns B rs)) (hb : EvP tb σ H (IsHb P w K (fun C => C = CH ∨ C = CR) ns B rs)) : Ev (tOp (rNeI K fE (fEq P w K CH CR)) ta tb) σ H (.bl false) :=
  (evp_op (P' := IsV (.bl false)) ha sty_Hb hb fun x y H1 _ ⟨a, C1, ea, c1, pa⟩ ⟨b, C2, eb, c2, pb⟩ Q q => by
    subst ea
    subst eb
    subst c1
    have pa' := pa
    have pb' := pb
    obtain ⟨dx, s1, r1, d1, i1, _⟩ := pa'
    obtain ⟨dy, s2, r2, d2, i2, _⟩ := pb'
    refine ⟨a, b, C1, C2, dx, dy, _, _, rfl, rfl, i1, i2, C.neR, ?_, ⟨a, b, C1, C2, ns, B, rs, rfl, .inr rfl, c2, pa, pb, rfl⟩, fun H2 e2 => q _ H2 e2 rfl⟩
    rcases c2 with rfl | rfl
    · exact C.nfH
    · exact C.nfR).ev
theorem rows_same (g : Gd ns B kvs) {m : Bks} (hn : (m.map (·.1)).Nodup) (h : ∀ x, x ∈ m ↔ x ∈ kvs ∧ x.2 ≠ 0) : rowsOf ns B m = rowsOf ns B kvs := List.map_congr_left fun c hc => (g.same hn h).2 c hc
theorem depth_hR (B : Int) (rs : List Row) : (NestedKey.tup (hR B rs)).depth ≤ 64 := by
  have h2 := depth_eRs (rs.map fun r => rowE B r)
  rw [List.map_map] at h2
  have h3 : (NestedKey.tup (hR B rs)).depth ≤ 4 := h2
  omega
theorem depth_zL (ns : List Nat) : (eL (zL ns)).depth ≤ 64 := by
  have h1 := depth_eL (zL ns)
  omega
theorem size_two : ∀ ns ∈ allSizes, 2 ≤ (contents ns).length := by decide +kernel
theorem filt_mem (g : Gd ns B kvs) (x : Bx × Int) : x ∈ kvs.filter (fun x => decide (0 < x.2)) ↔ x ∈ kvs ∧ x.2 ≠ 0 := by
  rw [List.mem_filter, decide_eq_true_iff]
  constructor
  · rintro ⟨h1, h2⟩
    exact ⟨h1, by omega⟩
  · rintro ⟨h1, h2⟩
    have := g.num x h1
    exact ⟨h1, by omega⟩
theorem nodup_filt {p : Bx × Int → Bool} (h : (kvs.map (·.1)).Nodup) : ((kvs.filter p).map (·.1)).Nodup := by
  rw [List.Nodup, List.pairwise_map]
  exact (List.pairwise_map.mp h).filter _
theorem nodup_inj {α β : Type} (f : α → β) : ∀ {l : List α}, (l.map f).Nodup → ∀ a ∈ l, ∀ b ∈ l, f a = f b → a = b
  | [], _, a, ha, _, _, _ => by cases ha
  | z :: l, h, a, ha, b, hb, e => by
    rw [List.map_cons] at h
    obtain ⟨h1, h2⟩ := List.nodup_cons.mp h
    cases ha with
    | head =>
      cases hb with
      | head => rfl
      | tail _ hb => exact absurd (List.mem_map.mpr ⟨b, hb, e.symm⟩) h1
    | tail _ ha =>
      cases hb with
      | head => exact absurd (List.mem_map.mpr ⟨a, ha, e⟩) h1
      | tail _ hb => exact nodup_inj f h2 a ha b hb e
/-- the hashes of a good dict's keys are apart -/
theorem Gd.hashes (g : Gd ns B kvs) (w : World) : ((bK kvs).map fun k => k.hash w).Nodup := by
  have hb := boxes_apart ns g.sz
  have hin : ∀ x ∈ kvs, x.1 ∈ boxes ns := fun x hx => by
    obtain ⟨h1, h2, c, hc, h3⟩ := g.key x hx
    have hp : x.1.1 ∈ parts ns.length := List.mem_filter.mpr ⟨h1, decide_eq_true h2⟩
    have h4 := boxes_in ns g.sz
    rw [List.all_eq_true] at h4
    have h5 := h4 x.1.1 hp
    rw [List.all_eq_true] at h5
    have h6 : (contents (sub ns x.1.1)).contains (proj x.1.1 c) = true := h5 c hc
    rw [List.contains_iff_mem] at h6
    refine List.mem_flatMap.mpr ⟨x.1.1, hp, List.mem_map.mpr ⟨x.1.2, ?_, rfl⟩⟩
    rw [h3]
    exact h6
  have hinj := nodup_inj hB hb
  have e : (bK kvs).map (fun k => k.hash w) = kvs.map fun x => hB x.1 := by
    unfold bK
    rw [List.map_map]
    simp only [Function.comp_def, hash_eB]
  rw [e, List.Nodup, List.pairwise_map]
  refine List.Pairwise.imp_of_mem (fun {a b} ha hb hab he => hab ?_) (List.pairwise_map.mp g.nd)
  exact hinj _ (hin a ha) _ (hin b hb) he
end
end FM
/-! The law. -/
namespace FM
open PySem PySem.Spec PyProof.Rows L2 Evl
def posN (x : Bx × Int) : Bool := decide (0 < x.2)
def pairE (B : Int) (x : Bx × Int) : NestedKey := .tup [eB x.1, eF (lw x.2 B)]
section
variable {P : Program} {w : World} {K : PySem.W.Frag} {mg : Str → Option Value} {base : Heap} {aN aO : Addr} {tC tM : Tok} {CH CR fK fI fR fE : Addr}
theorem sc_law : FnScope ["_law_script", "_law_hand_here", "_law_turn", "_law_sizes_here", "_law_shares_here", "_law_handed", "_law_habit", "_law_rows", "_law_due", "_law_told", "_law_whole", "_law_row", "_law_content", "_law_box_here"] ["_law_script"] (defScope (top 68)) := ⟨rfl, rfl, rfl, by decide +kernel, rfl, by decide +kernel, by decide +kernel⟩
def spLaw (K : PySem.W.Frag) : Sp := fun vs H Q _ => ∃ (a : Addr) (ns : List Int), vs = [.ref a] ∧ SqL K H a (ns.map V.int) ∧ ns.length ≤ 63 ∧ ∀ H', Q (.bl true) H'
theorem ok_law {f : Addr} {fd : FuncData} (F : Fun K "law" "law" (top 68) f fd) (T : Txt K mg aN aO tC tM) (C : TxC K mg CH CR fK fI fR fE)
    (G__law_hand : Fn P w K mg base "_law_hand" 1 ["_law_script"] (spG (fHand K))) (G__law_sizes : Fn P w K mg base "_law_sizes" 3 ["_law_hand_here"] (spSizes K)) (G__law_shares : Fn P w K mg base "_law_shares" 3 ["_law_hand_here", "_law_sizes_here"] (spShares P w K))
    (G_habit_of : Fn P w K mg base "habit_of" 7 ["sizes", "shares"] (spG (fHabitOf P w K CR))) (G__law_contents : Fn P w K mg base "_law_contents" 1 ["_law_sizes_here"] (spD K (fContents K))) (G__law_row_of : Fn P w K mg base "_law_row_of" 4 ["_law_sizes_here", "_law_shares_here", "_law_content"] (spG (fLawRow P w K)))
    (G_Habit_init : Mp P w K mg base fI 6 ["self", "sizes", "rows"] (spHab P w K (fun c => c = CH) GoodOk)) (G_Habit_eq : Mp P w K mg base fE 1 ["self", "other"] (spG (fEq P w K CH CR)))
    (G_is_fair : Fn P w K mg base "is_fair" 4 ["habit"] (spG (fHab P w K CH CR (.bl true)))) (G_unfair : Fn P w K mg base "unfair" 4 ["habit"] (spG (fHab P w K CH CR .non))) (G_box_shares : Fn P w K mg base "box_shares" 5 ["habit"] (spG (fBoxShares P w K CH CR))) :
    FnOk P w K mg base CX0 8 f fd ["_law_script"] (spLaw K) := by
  refine F.ok sc_law (fun vs H Q E h => by obtain ⟨a, ns, rfl, _⟩ := h; rfl) (fun cdv A outer st H vs Q E hr h => ?_)
  obtain ⟨a, zs, rfl, ha, hzl, k⟩ := h
  have hu64 := hr.units
  have hu20 : (A.deeper (envOfC "law" (defScope (top 68)) st.heap.objs.size f cdv)).units + 20 < cLine := by omega
  have hu9 : (A.deeper (envOfC "law" (defScope (top 68)) st.heap.objs.size f cdv)).units + 9 < cLine := by omega
  refine ⟨_, (pss_cons (ps_set (i := 1) sc_law.nd rfl (.inl rfl) (pe_callF G__law_hand (hr.mono (by decide)) (pa_cons (pv 0) pa_nil)))
      (pss_cons (ps_for PassesOwn.never rfl (pi_range1 (by rfl) T.range (pa_cons pe_int pa_nil)) (pg_name (i := 2) sc_law.nd rfl (.inl rfl))
        (pss_cons (ps_set (i := 3) sc_law.nd rfl (.inr rfl) (pe_callF G__law_sizes (hr.mono (by decide)) (pa_cons (pv 1) pa_nil)))
        (pss_cons (ps_set (i := 4) sc_law.nd rfl (.inr rfl) (pe_callF G__law_shares (hr.mono (by decide)) (pa_cons (pv 1) (pa_cons (pv 3) pa_nil))))
        (pss_cons (ps_set (i := 5) sc_law.nd rfl (.inl rfl) (pe_callTy (r := rNdDict P w K) (call_ndDict hu20) (by rfl) T.dict boot_dict (pa_cons (pv 4) pa_nil)))
        (pss_cons (ps_set (i := 6) sc_law.nd rfl (.inl rfl) (pe_callF G_habit_of (hr.mono (by decide)) (pa_cons (pv 3) (pa_cons (pv 5) pa_nil))))
        (pss_cons (ps_if (pt_cmpR (r := rNdNe P w K) (op_ndNe hu20) (pv 5) (pv 4) (nomark _)) (pss_one (ps_ret pe_bl)) pss_nil)
        (pss_cons (ps_expr (pe_ndM0 PySem.F.slot_dict_clear PySem.F.type_dict_clear mt_ndClear (pv 5)))
        (pss_cons (ps_set (i := 7) sc_law.nd rfl (.inl rfl) (pe_callTy (r := rTupOf K) call_tuple_of (by rfl) T.tuple boot_tuple (pa_cons (pe_lc (own := [(("_law_content" : Str), 12)]) (g := gName 12) (tt := tYes) rfl sc_law.nd (pi_list (pe_callF G__law_contents (hr.mono (by decide)) (pa_cons (pv 3) pa_nil))) (blkOk_by (own := [(("_law_content" : Str), 12)]) (N := ["_law_script", "_law_hand_here", "_law_turn", "_law_sizes_here", "_law_shares_here", "_law_handed", "_law_habit", "_law_rows", "_law_due", "_law_told", "_law_whole", "_law_row", "_law_content", "_law_box_here"]) (sc := defScope (top 68)) (by decide +kernel)) (fun _ _ _ _ _ => (pg_name (i := 12) sc_law.nd rfl (.inl rfl))) (fun _ _ _ _ _ => pts_nil) (fun _ _ _ _ _ => (pe_callF G__law_row_of (hr.mono (by decide)) (pa_cons (pv 3) (pa_cons (pv 4) (pa_cons (pv 12) pa_nil)))))) pa_nil)))
        (pss_cons (ps_if (pw_or (pt_cmpR (r := rEqT K true) (op_neT hu64) (pe_fld (pv 6) rfl) (pv 7) (nomark _)) (pw_or (pt_cmpR (r := rEqT K true) (op_neT hu64) (pe_fld (pv 6) rfl) (pv 3) (nomark _)) (pw_or1 (pt_cmpR (r := rNeI K fE (fEq P w K CH CR)) (op_neM G_Habit_eq (hr.mono (by decide))) (pv 6) (pe_makeF C.MkHabit G_Habit_init (hr.mono (by decide)) C.gHabit (pa_cons (pv 3) (pa_cons (pv 7) pa_nil))) (nomark _))))).pt (pss_one (ps_ret pe_bl)) pss_nil)
        (pss_cons (ps_if (pw_or (pt_cmpR op_notBl (pe_callF G_is_fair (hr.mono (by decide)) (pa_cons (pv 6) pa_nil)) pe_bl (nomark _)) (pw_or1 (pt_cmp (pc_notN (pe_callF G_unfair (hr.mono (by decide)) (pa_cons (pv 6) pa_nil)))))).pt (pss_one (ps_ret pe_bl)) pss_nil)
        (pss_cons (ps_set (i := 8) sc_law.nd rfl (.inl rfl) (pe_callTy (r := rNdPairs P w K) (call_ndPairs rfl hu20) (by rfl) T.dict boot_dict (pa_cons (pe_lock (pe_lc (own := [(("_law_box_here" : Str), 13)]) (g := gName 13) rfl sc_law.nd (pi_nd (pv 4)) (blkOk_by (own := [(("_law_box_here" : Str), 13)]) (N := ["_law_script", "_law_hand_here", "_law_turn", "_law_sizes_here", "_law_shares_here", "_law_handed", "_law_habit", "_law_rows", "_law_due", "_law_told", "_law_whole", "_law_row", "_law_content", "_law_box_here"]) (sc := defScope (top 68)) (by decide +kernel)) (fun _ _ _ _ _ => (pg_name (i := 13) sc_law.nd rfl (.inl rfl))) (fun _ _ _ _ _ => (pts_one (pt_cmpR op_gt (pe_ix (r := rIxT K) ix_tup (pe_ndGetK (P := P) (w := w) (K := K) rfl rfl rfl hu9 (pv 4) (pv 13) (fun _ _ => rfl)) pe_int (fun _ _ => rfl)) pe_int (nomark _)))) (fun _ _ _ _ _ => (pe_tup (pa_cons (pv 13) (pa_cons (pe_ndGetK (P := P) (w := w) (K := K) rfl rfl rfl hu9 (pv 4) (pv 13) (fun _ _ => rfl)) pa_nil)))))) pa_nil)))
        (pss_cons (ps_set (i := 9) sc_law.nd rfl (.inl rfl) (pe_callF G_box_shares (hr.mono (by decide)) (pa_cons (pv 6) pa_nil)))
        (pss_cons (ps_if (pw_or (pt_cmpR (r := rNdNe P w K) (op_ndNe hu20) (pv 9) (pv 8) (nomark _)) (pw_or (pt_not (pt_val (pe_callB (r := rIsiNd P w) call_isiNd (by rfl) T.isinstance boot_isinstance (pa_cons (pv 9) (pa_cons (pe_bltn (v := V.ty "dict") (by rfl) T.dict boot_dict rfl) pa_nil))))) (pw_or1 (pt_cmpR (r := rNdNe P w K) (op_ndNe hu20) (pe_callF G_box_shares (hr.mono (by decide)) (pa_cons (pe_makeF C.MkHabit G_Habit_init (hr.mono (by decide)) C.gHabit (pa_cons (pv 3) (pa_cons (pv 7) pa_nil))) pa_nil)) (pv 8) (nomark _))))).pt (pss_one (ps_ret pe_bl)) pss_nil)
        (pss_cons (ps_if (pw_or (pt_cmpR (r := rNeI K fE (fEq P w K CH CR)) (op_neM G_Habit_eq (hr.mono (by decide))) (pe_callF G_habit_of (hr.mono (by decide)) (pa_cons (pv 3) (pa_cons (pv 9) pa_nil))) (pv 6) (nomark _)) (pw_or1 (pt_cmpR (r := rNeI K fE (fEq P w K CH CR)) (op_neM G_Habit_eq (hr.mono (by decide))) (pe_callF G_habit_of (hr.mono (by decide)) (pa_cons (pv 3) (pa_cons (pv 8) pa_nil))) (pv 6) (nomark _)))).pt (pss_one (ps_ret pe_bl)) pss_nil)
        (pss_cons (ps_expr (pe_ndM0 PySem.F.slot_dict_clear PySem.F.type_dict_clear mt_ndClear (pv 9)))
        (pss_cons (ps_if (pt_cmpR (r := rNdNe P w K) (op_ndNe hu20) (pe_callF G_box_shares (hr.mono (by decide)) (pa_cons (pv 6) pa_nil)) (pv 8) (nomark _)) (pss_one (ps_ret pe_bl)) pss_nil)
        (pss_cons (ps_set (i := 10) sc_law.nd rfl (.inl rfl) (pe_callF G_habit_of (hr.mono (by decide)) (pa_cons (pv 3) (pa_cons pe_ndNew pa_nil))))
        (pss_cons (ps_set (i := 11) sc_law.nd rfl (.inl rfl) (pe_tup (pa_cons (pe_tup (pa_cons (pe_tupRg rfl (by rfl) T.tuple (prg_1 (by rfl) T.range (pe_callB (r := rLenS K) call_len_seq (by rfl) T.len boot_len (pa_cons (pv 3) pa_nil)))) (pa_cons (pe_tup (pa_cons pe_int (pa_cons pe_int pa_nil))) pa_nil))) pa_nil)))
        (pss_one (ps_if (pw_or (pt_cmpR (r := rNdNe P w K) (op_ndNe hu20) (pe_callF G_box_shares (hr.mono (by decide)) (pa_cons (pv 10) pa_nil)) pe_ndNew (nomark _)) (pw_or1 (pt_cmpR (r := rEqT K true) (op_neT hu64) (pe_fld (pv 10) rfl) (pe_op (r := rRepT K) op_repT (pe_tup (pa_cons (pv 11) pa_nil)) (pe_callB (r := rLenS K) call_len_seq (by rfl) T.len boot_len (pa_cons (pv 7) pa_nil))) (nomark _)))).pt (pss_one (ps_ret pe_bl)) pss_nil))))))))))))))))))))
      (pss_one (ps_ret pe_bl)))), ?_⟩
  refine qp_asg (P := fun v H2 => ∃ h ca, v = .ref h ∧ HandC H2 h ca) (evp_call (F := fHand K) (E := EN) (ta := tCons (tVar 0) tNil) (eap_cons (evp_v (ev_var (v := V.ref a) rfl)) sty_V eap_nil) fun vs H2 e2 ⟨x, ws, q1, h1, q2⟩ => by
    cases h1
    exact ⟨_, ⟨a, zs, by rw [q1, q2], ex_l e2 ha, hzl, rfl⟩, fun v H3 _ ⟨h, ca, e, _, hh⟩ => ⟨h, ca, e, hh⟩⟩) fun v H1 e1 ⟨h, ca, ev, hh⟩ => ?_
  subst ev
  refine ⟨3, rfl, by decide, by decide, for_it walk_range (fun i σ' H' => ∃ x2 x3 x4 x5 x6 x7 x8 x9 x10 x11 x12 x13 : Option V, σ' = [some (.ref a), some (.ref h), x2, x3, x4, x5, x6, x7, x8, x9, x10, x11, x12, x13] ∧ HandC H' h ca) ⟨none, none, none, none, none, none, none, none, none, none, none, none, rfl, hh⟩ (fun _ _ _ _ _ => trivial) ?_ ?_⟩
  · rintro i x σ' H2 H2' hi ⟨x2, x3, x4, x5, x6, x7, x8, x9, x10, x11, x12, x13, rfl, hh2⟩ ⟨rfl, _⟩
    show tSeq _ _ _ (_ : L2.St) H2'
    -- sizes and shares drawn
    refine ⟨.ref h, rfl, h, ca, rfl, hh2, fun vs ns H3 hns ts eb3 hh3 => ?_⟩
    refine ⟨.ref h, rfl, vs, rfl, h, ca, vs, ns, rfl, hh3, ts, hns, fun b B kvs H4 fb hD g eb4 hh4 => ?_⟩
    have ts4 := ts.kp (KpH.draw hh3 eb4).1
    show tSeq _ _ _ ([some (.ref a), some (.ref h), some x, some vs, some (.ref b), x5, x6, x7, x8, x9, x10, x11, x12, x13] : L2.St) H4
    -- handed
    refine qp_asg (evp_ndDict (ev_var (i := 4) rfl) hD (fun k hk => by obtain ⟨y, _, rfl⟩ := List.mem_map.mp hk; exact ⟨_, rfl⟩) (g.hashes w)) fun v5 H5 e5 ⟨D1, ev5, f5, hD1⟩ => ?_
    subst ev5
    -- the habit
    refine qp_asg (evp_habitOf (ns := ns) (B := B) (kvs := kvs) (evd_var rfl (ts4.ex e5)) (evp_var rfl fun H6 e6 => ⟨D1, rfl, hD1.ex e6⟩) g) fun v6 H6 e6 ⟨p, ev6, f6, hN⟩ => ?_
    subst ev6
    -- the dict handed did not change
    refine q_when (b := false) (et_test (ev_ndNe (B := B) (m := kvs) (m' := kvs) (evp_var rfl fun H7 e7 => ⟨D1, rfl, (hD1.ex (e6.trans e7)).r⟩) (evp_var rfl fun H7 e7 => ⟨b, rfl, (hD.ex ((e5.trans e6).trans e7)).r⟩) g.nd g.nd fun _ => Iff.rfl)) (fun h => by cases h) fun _ H7 e7 => ?_
    refine q_clear rfl (hD1.ex (e6.trans e7)) fun H8 eb8 kp8 => ?_
    have x48 : Ex H4 H8 := ExB.ex f5 ((ExB.of (e5.trans (e6.trans e7))).trans eb8)
    obtain ⟨φ0, hφ0⟩ := hD1.some
    obtain ⟨φ, hφ⟩ := (hD1.ex (e6.trans e7)).some
    have hb8 : Hab P w K H8 p CR ns B (rowsOf ns B kvs) := (hN.ex e7).exB hφ0 hφ eb8 kp8
    have ts8 := ts4.ex x48
    have hD8 := hD.ex x48
    have hh8 := hh4.ex x48
    clear hN hφ hφ0 eb8 kp8 hD1 f5 f6 e7 e6 e5 x48 ts4 hD hh4
    have hcf := contents_facts ns hns
    have hC : EvP (tCall (spD K (fContents K)) [] EN (tCons (tVar 3) tNil)) [some (.ref a), some (.ref h), some x, some vs, some (.ref b), some (.ref D1), some (.ref p), x7, x8, x9, x10, x11, x12, x13] H8 (IsLD K ((contents ns).map eL)) := evp_callD (ead_cons (evd_var rfl ts8) ead_nil) ⟨ns, rfl, hns, rfl⟩
    have hL := evp_lcD (K := K) (σ := [some (.ref a), some (.ref h), some x, some vs, some (.ref b), some (.ref D1), some (.ref p), x7, x8, x9, x10, x11, x12, x13]) (H := H8) (te := tCall (spG (fLawRow P w K)) [] EN (tCons (tVar 3) (tCons (tVar 4) (tCons (tVar 12) tNil)))) (g := gName 12) (tt := tYes) (vs := [12]) (Y := fun i v H => ∃ d, ((contents ns).map eL)[i]? = some d ∧ Tv K H v d) (contents ns) (fun _ => true) (fun c => eR (rowE B (rowOf ns.length B kvs c)))
      (by have := evi_listD hC; rw [List.length_map] at this; exact this) (by rw [hcf.2.1]; have := hcf.2.2.1; omega) (fun i c y H9 hc e9 ⟨d, hd, tv⟩ => by
        rw [List.getElem?_map, hc] at hd
        cases hd
        refine gvg_name ⟨rfl, et_yes, fun _ => ?_⟩
        exact evp_call (F := fLawRow P w K) (P := IsD K (eR (rowE B (rowOf ns.length B kvs c)))) (eap_cons (P := IsD K (eL (zL ns))) (evd_var rfl (ts8.ex e9)) sty_D (eap_cons (P := IsV (V.ref b)) (evp_v (ev_var rfl)) sty_V (eap_cons (P := IsD K (eL c)) (evd_var rfl tv) sty_D eap_nil))) fun vs H2 e2 ⟨y1, w1, q1, h1, y2, w2, q2, h2, y3, w3, q3, h3, q4⟩ => by
          cases h2
          exact ⟨_, ⟨y1, b, y3, ns, B, kvs, c, by rw [q1, q2, q3, q4], h1, hD8.ex (e9.trans e2), g, h3, List.mem_of_getElem? hc, rfl⟩, fun _ _ _ h => h⟩)
    rw [List.filter_eq_self.mpr (fun _ _ => rfl)] at hL
    have eE : ((contents ns).map fun c => eR (rowE B (rowOf ns.length B kvs c))) = hR B (rowsOf ns B kvs) := by
      show _ = ((contents ns).map fun c => rowOf ns.length B kvs c).map fun r => eR (rowE B r)
      rw [List.map_map]
      rfl
    rw [eE] at hL
    refine qp_asg (evd_tupOf hL) fun v7 H9 e9 hrows => ?_
    have hzR := depth_hR B (rowsOf ns B kvs)
    have mk : ∀ {σ : L2.St} {H9}, Ex H8 H9 → σ[3]? = some (some vs) → σ[7]? = some (some v7) → Tv K H9 v7 (.tup (hR B (rowsOf ns B kvs))) → EvP (tMake CH (spHab P w K (fun c => c = CH) GoodOk) [] EN (tCons (tVar 3) (tCons (tVar 7) tNil))) σ H9 (IsHb P w K (fun C => C = CH ∨ C = CR) ns B (rowsOf ns B kvs)) := fun e9 h3 h7 t7 =>
      (evp_makeH (P := P) (w := w) (K := K) (C0 := fun c => c = CH) (Ok := GoodOk) (C := CH) (ns := ns) (B := B) (rs := rowsOf ns B kvs) ((eap_cons (P := IsD K (eL (zL ns))) (evd_var h3 (ts8.ex e9)) sty_D (eap_cons (P := IsD K (.tup (hR B (rowsOf ns B kvs)))) (evd_var h7 t7) sty_D eap_nil)).imp fun vs H2 _ ⟨x, ws, e1, h1, y, ws', e2, h2, e3⟩ => ⟨x, y, by rw [e1, e2, e3], h1, h2⟩) rfl hns (by rw [List.length_map]) ⟨g.bot.1, g.bot.2, fun r hr => by
        obtain ⟨c, hc, rfl⟩ := List.mem_map.mp hr
        exact g.good hc⟩).imp fun v H2 _ ⟨p, ep, _, hp⟩ => ⟨p, CH, ep, .inl rfl, hp.hab⟩
    obtain ⟨clR, nRs, nRr, nRk⟩ := C.cls (c := CR) (.inr rfl)
    have hb9 := hb8.ex e9
    -- rows, sizes, the habit
    refine q_when (b := false) (et_false_or (et_test (Ev.cast (ev_eqT (neg := true) (evd_rows hb9 clR nRr (ev_var rfl)) (evd_var rfl hrows) hzR hzR) (by simp))) (et_false_or (et_test (Ev.cast (ev_eqT (neg := true) (evd_sizes hb9 clR nRs (ev_var rfl)) (evd_var rfl (ts8.ex e9)) (depth_zL ns) (depth_zL ns)) (by simp))) (et_test (ev_habNe C (evp_var rfl fun H10 e10 => ⟨p, CR, rfl, rfl, hb9.ex e10⟩) (mk e9 rfl rfl hrows))))) (fun h => by cases h) fun _ H10 e10 => ?_
    have hb10 := hb9.ex e10
    have e810 := e9.trans e10
    have rows10 : Tv K H10 v7 (.tup (hR B (rowsOf ns B kvs))) := Tv.ex hrows e10
    -- fair
    refine q_when (b := false) (et_false_or (et_test ?_) (et_B (ev_notN (fHab_call (ev_var rfl) (.inr rfl) hb10 g)))) (fun h => by cases h) fun _ H11 e11 => ?_
    · exact (evp_op (P' := IsV (.bl false)) (evp_v (fHab_call (CH := CH) (z := .bl true) (ev_var rfl) (.inr rfl) hb10 g)) sty_V (evp_v ev_c) fun x y H1 _ px py Q q => by
        cases px
        cases py
        exact ⟨true, true, rfl, rfl, q _ H1 (Ex.refl H1) rfl⟩).ev
    have e811 := e810.trans e11
    have hb11 := hb10.ex e11
    have rows11 : Tv K H11 v7 (.tup (hR B (rowsOf ns B kvs))) := rows10.ex e11
    -- due
    obtain ⟨l, l1, l2, l3, l4⟩ := dw_obj (hD8.ex e811)
    have hlk : (prs l).length = kvs.length := by
      have := congrArg List.length l3
      rw [List.length_map, List.length_map] at this
      exact this
    have hgl := g.len
    have hLk : EvP (tLockE (tLc (iNd P w (tVar 4)) (gName 13) (tTest (tOp (rI0 fun i j => .bl (decide (j < i))) (tOp (rIxT K) (tOp (rNdGet P w K) (tVar 4) (tVar 13)) (L2.tC (.int 0))) (L2.tC (.int 0)))) (tTup (tCons (tVar 13) (tCons (tOp (rNdGet P w K) (tVar 4) (tVar 13)) tNil))) [13])) [some (.ref a), some (.ref h), some x, some vs, some (.ref b), some (.ref D1), some (.ref p), some v7, x8, x9, x10, x11, x12, x13] H11 (IsLD K ((kvs.filter posN).map (pairE B))) := by
      refine evp_lockE (R' := fun _ _ => IsLD K ((kvs.filter posN).map (pairE B))) l1 mut_ext (fun H12 od e12 => ?_) fun H12 od v H' e12 e' ⟨L, ys, ev, hL', ty⟩ => ?_
      · refine evp_lcD (K := K) (Y := fun i v H => ∃ k, ((prs l).map (·.1))[i]? = some k ∧ Tv K H v k) kvs posN (pairE B) (hlk ▸ evi_nd (ev_var rfl) upd_same ((l2.kp (.ex e12)).kp (kp_lock (e12 _ _ l1)))) (by omega) fun i y z H13 hy e13 ⟨kk, hk, tv⟩ => ?_
        rw [l3] at hk
        obtain ⟨y', hy', rfl⟩ := bK_get hk
        rw [hy] at hy'
        cases hy'
        have hdd : DD P w K H13 b (bK kvs) (bD B kvs) := (dd_lock (od := od) (e12 _ _ l1) (l2.kp (.ex e12)) l3 (l4.ex e12)).ex e13
        have hg : EvD K (tOp (rNdGet P w K) (tVar 4) (tVar 13)) ((wipe [some (.ref a), some (.ref h), some x, some vs, some (.ref b), some (.ref D1), some (.ref p), some v7, x8, x9, x10, x11, x12, x13] [13]).set 13 (some z)) H13 (eF (lw y.2 B)) := evd_ndGet (evp_var rfl fun H5 e5 => ⟨b, rfl, hdd.ex e5⟩) (evd_var rfl tv) (bK_nd g.nd) (bK_at hy) (bD_at hy) (by rw [depth_eB]; decide)
        have ht := et_test (ev_op (ev_ix0 hg ev_c).int (ev_c (v := .int 0)) (rv_I0 (g := fun i j => .bl (decide (j < i)))))
        have ed : decide ((0 : Int) < (lw y.2 B).1) = decide (0 < y.2) := by
          rw [decide_eq_decide]
          exact lw_top_pos g.bot.1
        exact gvg_name ⟨rfl, et_is ht ed, fun _ => evd_tup (ead_cons (evd_var rfl tv) (ead_cons hg ead_nil)) (by show 2 ≤ 100000; decide)⟩
      · have hfz := e' _ _ upd_same
        have nL : L ≠ b := fun z => by
          subst z
          rw [hL'] at hfz
          cases hfz
        exact ⟨L, ys, ev, by rw [upd_ne nL]; exact hL', ty.kp (Kp.upd (nrd_frz hfz fun ys z => by cases z))⟩
    refine qp_asg (evp_ndPairs (B := B) (xs := kvs.filter posN) hLk (nodup_filt g.nd)) fun v8 H12 e12 ⟨Dd, ev8, f8, hDd⟩ => ?_
    subst ev8
    have hdn := nodup_filt (p := posN) g.nd
    have hdm : ∀ x, x ∈ kvs.filter posN ↔ x ∈ kvs ∧ x.2 ≠ 0 := filt_mem g
    have e812 := e811.trans e12
    have hb12 := hb11.ex e12
    have rows12 : Tv K H12 v7 (.tup (hR B (rowsOf ns B kvs))) := rows11.ex e12
    have isDue : ∀ {H'}, Ex H12 H' → IsSh P w K B kvs (.ref Dd) H' := fun e => ⟨Dd, _, rfl, (hDd.ex e).r, hdn, hdm⟩
    have isHb : ∀ {H'}, Ex H12 H' → IsHb P w K (fun C => C = CH ∨ C = CR) ns B (rowsOf ns B kvs) (.ref p) H' := fun e => ⟨p, CR, rfl, .inr rfl, hb12.ex e⟩
    -- told
    refine qp_asg (evp_boxShares (CH := CH) (CR := CR) (ns := ns) (B := B) (kvs := kvs) (evp_var rfl fun H e => isHb e) g) fun v9 H13 e13 ⟨Dt, m, ev9, f9, hDt, mn, mm⟩ => ?_
    subst ev9
    have isTold : ∀ {H'}, Ex H13 H' → IsSh P w K B kvs (.ref Dt) H' := fun e => ⟨Dt, m, rfl, (hDt.ex e).r, mn, mm⟩
    refine q_when (b := false) (et_false_or (et_test (ev_ndNeS (B := B) (kvs := kvs) (evp_var rfl fun H e => isTold e) (evp_var rfl fun H e => isDue (e13.trans e)))) (et_false_or (et_nt ?_) (et_test (ev_ndNeS (B := B) (kvs := kvs) (evp_boxSharesS (mk (e812.trans e13) rfl rfl (rows12.ex e13)) g) (evp_var rfl fun H e => isDue (e13.trans e)))))) (fun h => by cases h) fun _ H14 e14 => ?_
    · obtain ⟨l', l1', _⟩ := dw_obj hDt
      exact (evp_cb (P := IsV (.bl true)) (eap_cons (evp_v (ev_var (v := V.ref Dt) rfl)) sty_V (eap_cons (evp_v ev_c) sty_V eap_nil)) fun vs H1 e1 hv Q q => by
        obtain ⟨x, ws, rfl, hx, y, ws', rfl, hy, rfl⟩ := hv
        cases hx
        cases hy
        exact ⟨Dt, l', rfl, .inl (e1 _ _ l1'), q _ H1 (Ex.refl H1) rfl⟩).ev
    have e1214 := e13.trans e14
    -- made again of what was told
    have again : ∀ {m' : Bks} {j : Nat} {D : Addr}, (m'.map (·.1)).Nodup → (∀ x, x ∈ m' ↔ x ∈ kvs ∧ x.2 ≠ 0) → (∀ {H'}, Ex H14 H' → DW P w K H' D (bK m') (bD B m')) → ∀ σ : L2.St, σ[3]? = some (some vs) → σ[j]? = some (some (V.ref D)) → EvP (tCall (spG (fHabitOf P w K CR)) [] EN (tCons (tVar 3) (tCons (tVar j) tNil))) σ H14 (IsHb P w K (fun C => C = CR) ns B (rowsOf ns B kvs)) := fun h1 h2 h3 σ s3 sj =>
      (evp_habitOf (evd_var s3 (ts8.ex (e812.trans e1214))) (evp_var sj fun H e => ⟨_, rfl, h3 e⟩) (g.same h1 h2).1).imp fun v H2 _ ⟨q, eq, _, hq⟩ => ⟨q, CR, eq, rfl, by rw [← rows_same g h1 h2]; exact hq.hab⟩
    refine q_when (b := false) (et_false_or (et_test (ev_habNe C (again mn mm (fun e => hDt.ex (e14.trans e)) _ rfl rfl) (evp_var rfl fun H e => isHb (e1214.trans e)))) (et_test (ev_habNe C (again hdn hdm (fun e => hDd.ex (e1214.trans e)) _ rfl rfl) (evp_var rfl fun H e => isHb (e1214.trans e))))) (fun h => by cases h) fun _ H15 e15 => ?_
    refine q_clear rfl (hDt.ex (e14.trans e15)) fun H16 eb16 kp16 => ?_
    have x1216 : Ex H12 H16 := ExB.ex f9 ((ExB.of (e1214.trans e15)).trans eb16)
    refine q_when (b := false) (et_test (ev_ndNeS (B := B) (kvs := kvs) (evp_boxSharesS (CH := CH) (CR := CR) (evp_var rfl fun H e => isHb (x1216.trans e)) g) (evp_var rfl fun H e => isDue (x1216.trans e)))) (fun h => by cases h) fun _ H17 e17 => ?_
    have x817 : Ex H8 H17 := e812.trans (x1216.trans e17)
    -- the whole habit
    have g0 := gd_nil hns
    refine qp_asg (evp_habitOf (CR := CR) (ns := ns) (B := 1) (kvs := []) (evd_var rfl (ts8.ex x817)) ((evp_ndNew (P := P) (w := w) (K := K)).imp fun v H2 _ ⟨D, ev, _, hD⟩ => ⟨D, ev, hD⟩) g0) fun v10 H18 e18 ⟨p2, ev10, f10, hN2⟩ => ?_
    subst ev10
    have x818 := x817.trans e18
    have hzl2 : ((zL ns).map NestedKey.num).length = ns.length := map_len (zL_len ns)
    have hcol := hcf.2.2.2.2.2.1
    have erow : eR (rowE 1 [(allC ns.length, 1)]) = .tup [.tup [eL (allC ns.length), eF (1, 1)]] := by
      show NestedKey.tup [NestedKey.tup [eL (allC ns.length), eF (lw 1 1)]] = _
      rw [lw_one (by decide)]
    have hrow : EvD K (tTup (tCons (tTup (tCons (tTupRg (tRg1 (tCB (rLenS K) (tCons (tVar 3) tNil)))) (tCons (tTup (tCons (L2.tC (.int 1)) (tCons (L2.tC (.int 1)) tNil))) tNil))) tNil)) [some (.ref a), some (.ref h), some x, some vs, some (.ref b), some (.ref D1), some (.ref p), some v7, some (.ref Dd), some (.ref Dt), some (.ref p2), x11, x12, x13] H18 (.tup [.tup [eL (allC ns.length), eF (1, 1)]]) := evd_tup (ead_cons (evd_tup (ead_cons (evd_tupRg (Ev.castI (ev_lenD (evd_var (i := 3) rfl (ts8.ex x818))) (j := (ns.length : Int)) (by rw [hzl2])) (by omega)) (ead_cons (evd_tup (ead_cons (evd_i ev_c) (ead_cons (evd_i ev_c) ead_nil)) (by show 2 ≤ 100000; decide)) ead_nil)) (by show 2 ≤ 100000; decide)) ead_nil) (by show 1 ≤ 100000; decide)
    rw [← erow] at hrow
    refine qp_asg hrow fun v11 H19 e19 hrw => ?_
    have x819 := x818.trans e19
    have hb2 := hN2.hab.ex e19
    have rows19 : Tv K H19 v7 (.tup (hR B (rowsOf ns B kvs))) := rows12.ex ((x1216.trans e17).trans (e18.trans e19))
    have hlenR : (hR B (rowsOf ns B kvs)).length = (contents ns).length := by rw [List.length_map, List.length_map]
    have erep : List.replicate (contents ns).length (eR (rowE 1 [(allC ns.length, 1)])) = hR 1 (rowsOf ns 1 []) := by
      have e1 : rowsOf ns 1 [] = List.replicate (contents ns).length [(allC ns.length, 1)] := by
        show ((contents ns).map fun c => rowOf ns.length 1 [] c) = _
        rw [List.map_congr_left fun c _ => row_nil hns c, List.map_const']
      rw [e1]
      show _ = (List.replicate _ _).map _
      rw [List.map_replicate]
    refine s_when (b := false) (et_false_or (et_test (ev_ndNeS (B := 1) (kvs := []) (evp_boxSharesS (CH := CH) (CR := CR) (evp_var rfl fun H e => ⟨p2, CR, rfl, .inr rfl, hb2.ex e⟩) g0) ((evp_ndNew (P := P) (w := w) (K := K)).imp fun v H2 _ ⟨D, ev, _, hD⟩ => ⟨D, [], ev, hD.r, List.nodup_nil, fun x => ⟨fun h => (by cases h), fun h => h.1⟩⟩))) (et_test (Ev.cast (ev_eqT (neg := true) (evd_rows hb2 clR nRr (ev_var rfl)) (erep ▸ evd_rep (n := (contents ns).length) (evd_tup (ead_cons (evd_var rfl hrw) ead_nil) (by show 1 ≤ 100000; decide)) (Ev.castI (ev_lenD (evd_var rfl rows19)) (by rw [hlenR])) (size_two ns hns) (by rw [hcf.2.1]; have := hcf.2.2.1; omega)) (depth_hR _ _) (depth_hR _ _)) (by simp)))) (fun h => by cases h) fun _ H20 e20 => ?_
    exact ⟨some x, some vs, some (.ref b), some (.ref D1), some (.ref p), some v7, some (.ref Dd), some (.ref Dt), some (.ref p2), some v11, x12, x13, rfl, hh8.ex (x819.trans e20)⟩
  · rintro σ' H2 ⟨x2, x3, x4, x5, x6, x7, x8, x9, x10, x11, x12, x13, rfl, hh2⟩
    exact k H2
end
end FM
/-! What the top has written. -/
namespace FM
open PySem PySem.Spec PyProof.Rows L2 Evl
theorem tv_two {K : PySem.W.Frag} {H : Hp} {a : Addr} {od : Option Addr} {sl : Array (Option Value)} {i j : Int} {t u : Tok} {n : Nat} (l : K.lookup a = some ⟨.type "tuple", od, .seq #[.int i t, .int j u] n, sl⟩) : Tv K H (.ref a) (eF (i, j)) :=
  .tup (xs := [V.int i, V.int j]) (.inr ⟨_, _, _, l, rfl, rfl, by show 2 ≤ sizeLine; decide, .cons ⟨_, rfl⟩ (.cons ⟨_, rfl⟩ .nil)⟩) (.cons (.int i) (.cons (.int j) .nil))
theorem all_mk {l : PySem.W.OpenLaw} {w : World} {K : PySem.W.Frag} {h : Heap} {mg : Str → Option Value} {fa CH CR fK fI fR fE aN aO : Addr} {tC tM : Tok} {od1 an1 : Option Addr} {sl1 : Array (Option Value)} {oc1 kV1 dc1 pm1 cd1 ct1 : Value} {od2 an2 : Option Addr} {sl2 : Array (Option Value)} {oc2 kV2 dc2 pm2 cd2 ct2 : Value} {od3 an3 : Option Addr} {sl3 : Array (Option Value)} {oc3 kV3 dc3 pm3 cd3 ct3 : Value} {od4 an4 : Option Addr} {sl4 : Array (Option Value)} {oc4 kV4 dc4 pm4 cd4 ct4 : Value} {f5 : Addr} {od5 an5 : Option Addr} {sl5 : Array (Option Value)} {oc5 kV5 dc5 pm5 cd5 ct5 : Value} {f6 : Addr} {od6 an6 : Option Addr} {sl6 : Array (Option Value)} {oc6 kV6 dc6 pm6 cd6 ct6 : Value} {f7 : Addr} {od7 an7 : Option Addr} {sl7 : Array (Option Value)} {oc7 kV7 dc7 pm7 cd7 ct7 : Value} {f8 : Addr} {od8 an8 : Option Addr} {sl8 : Array (Option Value)} {oc8 kV8 dc8 pm8 cd8 ct8 : Value} {f9 : Addr} {od9 an9 : Option Addr} {sl9 : Array (Option Value)} {oc9 kV9 dc9 pm9 cd9 ct9 : Value} {f10 : Addr} {od10 an10 : Option Addr} {sl10 : Array (Option Value)} {oc10 kV10 dc10 pm10 cd10 ct10 : Value} {f11 : Addr} {od11 an11 : Option Addr} {sl11 : Array (Option Value)} {oc11 kV11 dc11 pm11 cd11 ct11 : Value} {f12 : Addr} {od12 an12 : Option Addr} {sl12 : Array (Option Value)} {oc12 kV12 dc12 pm12 cd12 ct12 : Value} {f13 : Addr} {od13 an13 : Option Addr} {sl13 : Array (Option Value)} {oc13 kV13 dc13 pm13 cd13 ct13 : Value} {f14 : Addr} {od14 an14 : Option Addr} {sl14 : Array (Option Value)} {oc14 kV14 dc14 pm14 cd14 ct14 : Value} {f15 : Addr} {od15 an15 : Option Addr} {sl15 : Array (Option Value)} {oc15 kV15 dc15 pm15 cd15 ct15 : Value} {f16 : Addr} {od16 an16 : Option Addr} {sl16 : Array (Option Value)} {oc16 kV16 dc16 pm16 cd16 ct16 : Value} {f17 : Addr} {od17 an17 : Option Addr} {sl17 : Array (Option Value)} {oc17 kV17 dc17 pm17 cd17 ct17 : Value} {f18 : Addr} {od18 an18 : Option Addr} {sl18 : Array (Option Value)} {oc18 kV18 dc18 pm18 cd18 ct18 : Value} {f19 : Addr} {od19 an19 : Option Addr} {sl19 : Array (Option Value)} {oc19 kV19 dc19 pm19 cd19 ct19 : Value} {f20 : Addr} {od20 an20 : Option Addr} {sl20 : Array (Option Value)} {oc20 kV20 dc20 pm20 cd20 ct20 : Value} {f21 : Addr} {od21 an21 : Option Addr} {sl21 : Array (Option Value)} {oc21 kV21 dc21 pm21 cd21 ct21 : Value} {f22 : Addr} {od22 an22 : Option Addr} {sl22 : Array (Option Value)} {oc22 kV22 dc22 pm22 cd22 ct22 : Value} {f23 : Addr} {od23 an23 : Option Addr} {sl23 : Array (Option Value)} {oc23 kV23 dc23 pm23 cd23 ct23 : Value} {f24 : Addr} {od24 an24 : Option Addr} {sl24 : Array (Option Value)} {oc24 kV24 dc24 pm24 cd24 ct24 : Value} {f25 : Addr} {od25 an25 : Option Addr} {sl25 : Array (Option Value)} {oc25 kV25 dc25 pm25 cd25 ct25 : Value} {f26 : Addr} {od26 an26 : Option Addr} {sl26 : Array (Option Value)} {oc26 kV26 dc26 pm26 cd26 ct26 : Value} {f27 : Addr} {od27 an27 : Option Addr} {sl27 : Array (Option Value)} {oc27 kV27 dc27 pm27 cd27 ct27 : Value} {f28 : Addr} {od28 an28 : Option Addr} {sl28 : Array (Option Value)} {oc28 kV28 dc28 pm28 cd28 ct28 : Value} {f29 : Addr} {od29 an29 : Option Addr} {sl29 : Array (Option Value)} {oc29 kV29 dc29 pm29 cd29 ct29 : Value} {f30 : Addr} {od30 an30 : Option Addr} {sl30 : Array (Option Value)} {oc30 kV30 dc30 pm30 cd30 ct30 : Value} {f31 : Addr} {od31 an31 : Option Addr} {sl31 : Array (Option Value)} {oc31 kV31 dc31 pm31 cd31 ct31 : Value} {f32 : Addr} {od32 an32 : Option Addr} {sl32 : Array (Option Value)} {oc32 kV32 dc32 pm32 cd32 ct32 : Value} {f33 : Addr} {od33 an33 : Option Addr} {sl33 : Array (Option Value)} {oc33 kV33 dc33 pm33 cd33 ct33 : Value} {f34 : Addr} {od34 an34 : Option Addr} {sl34 : Array (Option Value)} {oc34 kV34 dc34 pm34 cd34 ct34 : Value} {f35 : Addr} {od35 an35 : Option Addr} {sl35 : Array (Option Value)} {oc35 kV35 dc35 pm35 cd35 ct35 : Value} {f36 : Addr} {od36 an36 : Option Addr} {sl36 : Array (Option Value)} {oc36 kV36 dc36 pm36 cd36 ct36 : Value} {f37 : Addr} {od37 an37 : Option Addr} {sl37 : Array (Option Value)} {oc37 kV37 dc37 pm37 cd37 ct37 : Value} {f38 : Addr} {od38 an38 : Option Addr} {sl38 : Array (Option Value)} {oc38 kV38 dc38 pm38 cd38 ct38 : Value} {f39 : Addr} {od39 an39 : Option Addr} {sl39 : Array (Option Value)} {oc39 kV39 dc39 pm39 cd39 ct39 : Value} {f40 : Addr} {od40 an40 : Option Addr} {sl40 : Array (Option Value)} {oc40 kV40 dc40 pm40 cd40 ct40 : Value} {f41 : Addr} {od41 an41 : Option Addr} {sl41 : Array (Option Value)} {oc41 kV41 dc41 pm41 cd41 ct41 : Value} {f42 : Addr} {od42 an42 : Option Addr} {sl42 : Array (Option Value)} {oc42 kV42 dc42 pm42 cd42 ct42 : Value} {f43 : Addr} {od43 an43 : Option Addr} {sl43 : Array (Option Value)} {oc43 kV43 dc43 pm43 cd43 ct43 : Value} {f44 : Addr} {od44 an44 : Option Addr} {sl44 : Array (Option Value)} {oc44 kV44 dc44 pm44 cd44 ct44 : Value} {f45 : Addr} {od45 an45 : Option Addr} {sl45 : Array (Option Value)} {oc45 kV45 dc45 pm45 cd45 ct45 : Value} {f46 : Addr} {od46 an46 : Option Addr} {sl46 : Array (Option Value)} {oc46 kV46 dc46 pm46 cd46 ct46 : Value} {f47 : Addr} {od47 an47 : Option Addr} {sl47 : Array (Option Value)} {oc47 kV47 dc47 pm47 cd47 ct47 : Value} {f48 : Addr} {od48 an48 : Option Addr} {sl48 : Array (Option Value)} {oc48 kV48 dc48 pm48 cd48 ct48 : Value} {f49 : Addr} {od49 an49 : Option Addr} {sl49 : Array (Option Value)} {oc49 kV49 dc49 pm49 cd49 ct49 : Value} {f50 : Addr} {od50 an50 : Option Addr} {sl50 : Array (Option Value)} {oc50 kV50 dc50 pm50 cd50 ct50 : Value} {f51 : Addr} {od51 an51 : Option Addr} {sl51 : Array (Option Value)} {oc51 kV51 dc51 pm51 cd51 ct51 : Value} {f52 : Addr} {od52 an52 : Option Addr} {sl52 : Array (Option Value)} {oc52 kV52 dc52 pm52 cd52 ct52 : Value} {f53 : Addr} {od53 an53 : Option Addr} {sl53 : Array (Option Value)} {oc53 kV53 dc53 pm53 cd53 ct53 : Value} {f54 : Addr} {od54 an54 : Option Addr} {sl54 : Array (Option Value)} {oc54 kV54 dc54 pm54 cd54 ct54 : Value} {f55 : Addr} {od55 an55 : Option Addr} {sl55 : Array (Option Value)} {oc55 kV55 dc55 pm55 cd55 ct55 : Value} {odaN : Option Addr} {slaN : Array (Option Value)} {taN uaN : Tok} {naN : Nat} {odaO : Option Addr} {slaO : Array (Option Value)} {taO uaO : Tok} {naO : Nat}
    (X : K.In h) (G : h.Ns mainGlobals mg) (hfa : mg "law" = some (.ref fa))
    (aCH : PySem.W.nsIn K mainGlobals "Habit" = some (some (.ref CH)))
    (aCR : PySem.W.nsIn K mainGlobals "RawHabit" = some (some (.ref CR)))
    (a1 : PySem.W.findIn K (.ref CH) "keep" = some (some (.ref fK)))
    (i1 : PySem.W.isFn K (.ref fK) = true)
    (l1 : K.lookup fK = some ⟨oc1, od1, .func (PySem.W.fnOf "keep" "Habit.keep" (defArgs (inClass (top 37) 1)) (defBody (inClass (top 37) 1)) (defScope (inClass (top 37) 1)) .none kV1 dc1 pm1 an1 cd1 ct1), sl1⟩)
    (c1 : PySem.W.codeIn K cd1 "Habit.keep" = true)
    (k1 : PySem.W.keepIn K (.ref fK) = true)
    (a2 : PySem.W.findIn K (.ref CR) "__init__" = some (some (.ref fR)))
    (i2 : PySem.W.isFn K (.ref fR) = true)
    (l2 : K.lookup fR = some ⟨oc2, od2, .func (PySem.W.fnOf "__init__" "RawHabit.__init__" (defArgs (inClass (top 38) 0)) (defBody (inClass (top 38) 0)) (defScope (inClass (top 38) 0)) .none kV2 dc2 pm2 an2 cd2 ct2), sl2⟩)
    (c2 : PySem.W.codeIn K cd2 "RawHabit.__init__" = true)
    (k2 : PySem.W.keepIn K (.ref fR) = true)
    (a3 : PySem.W.findIn K (.ref CH) "__init__" = some (some (.ref fI)))
    (i3 : PySem.W.isFn K (.ref fI) = true)
    (l3 : K.lookup fI = some ⟨oc3, od3, .func (PySem.W.fnOf "__init__" "Habit.__init__" (defArgs (inClass (top 37) 0)) (defBody (inClass (top 37) 0)) (defScope (inClass (top 37) 0)) .none kV3 dc3 pm3 an3 cd3 ct3), sl3⟩)
    (c3 : PySem.W.codeIn K cd3 "Habit.__init__" = true)
    (k3 : PySem.W.keepIn K (.ref fI) = true)
    (a4 : PySem.W.findIn K (.ref CH) "__eq__" = some (some (.ref fE)))
    (i4 : PySem.W.isFn K (.ref fE) = true)
    (l4 : K.lookup fE = some ⟨oc4, od4, .func (PySem.W.fnOf "__eq__" "Habit.__eq__" (defArgs (inClass (top 37) 2)) (defBody (inClass (top 37) 2)) (defScope (inClass (top 37) 2)) .none kV4 dc4 pm4 an4 cd4 ct4), sl4⟩)
    (c4 : PySem.W.codeIn K cd4 "Habit.__eq__" = true)
    (k4 : PySem.W.keepIn K (.ref fE) = true)
    (a5 : PySem.W.nsIn K mainGlobals "is_integer" = some (some (.ref f5)))
    (l5 : K.lookup f5 = some ⟨oc5, od5, .func (PySem.W.fnOf "is_integer" "is_integer" (defArgs (top 8)) (defBody (top 8)) (defScope (top 8)) .none kV5 dc5 pm5 an5 cd5 ct5), sl5⟩)
    (c5 : PySem.W.codeIn K cd5 "is_integer" = true)
    (k5 : PySem.W.keepIn K (.ref f5) = true)
    (a6 : PySem.W.nsIn K mainGlobals "is_within" = some (some (.ref f6)))
    (l6 : K.lookup f6 = some ⟨oc6, od6, .func (PySem.W.fnOf "is_within" "is_within" (defArgs (top 9)) (defBody (top 9)) (defScope (top 9)) .none kV6 dc6 pm6 an6 cd6 ct6), sl6⟩)
    (c6 : PySem.W.codeIn K cd6 "is_within" = true)
    (k6 : PySem.W.keepIn K (.ref f6) = true)
    (a7 : PySem.W.nsIn K mainGlobals "is_pair" = some (some (.ref f7)))
    (l7 : K.lookup f7 = some ⟨oc7, od7, .func (PySem.W.fnOf "is_pair" "is_pair" (defArgs (top 10)) (defBody (top 10)) (defScope (top 10)) .none kV7 dc7 pm7 an7 cd7 ct7), sl7⟩)
    (c7 : PySem.W.codeIn K cd7 "is_pair" = true)
    (k7 : PySem.W.keepIn K (.ref f7) = true)
    (a8 : PySem.W.nsIn K mainGlobals "are_ascending" = some (some (.ref f8)))
    (l8 : K.lookup f8 = some ⟨oc8, od8, .func (PySem.W.fnOf "are_ascending" "are_ascending" (defArgs (top 11)) (defBody (top 11)) (defScope (top 11)) .none kV8 dc8 pm8 an8 cd8 ct8), sl8⟩)
    (c8 : PySem.W.codeIn K cd8 "are_ascending" = true)
    (k8 : PySem.W.keepIn K (.ref f8) = true)
    (a9 : PySem.W.nsIn K mainGlobals "common_divisor" = some (some (.ref f9)))
    (l9 : K.lookup f9 = some ⟨oc9, od9, .func (PySem.W.fnOf "common_divisor" "common_divisor" (defArgs (top 15)) (defBody (top 15)) (defScope (top 15)) .none kV9 dc9 pm9 an9 cd9 ct9), sl9⟩)
    (c9 : PySem.W.codeIn K cd9 "common_divisor" = true)
    (k9 : PySem.W.keepIn K (.ref f9) = true)
    (a10 : PySem.W.nsIn K mainGlobals "made" = some (some (.ref f10)))
    (l10 : K.lookup f10 = some ⟨oc10, od10, .func (PySem.W.fnOf "made" "made" (defArgs (top 16)) (defBody (top 16)) (defScope (top 16)) .none kV10 dc10 pm10 an10 cd10 ct10), sl10⟩)
    (c10 : PySem.W.codeIn K cd10 "made" = true)
    (k10 : PySem.W.keepIn K (.ref f10) = true)
    (a11 : PySem.W.nsIn K mainGlobals "is_fraction" = some (some (.ref f11)))
    (l11 : K.lookup f11 = some ⟨oc11, od11, .func (PySem.W.fnOf "is_fraction" "is_fraction" (defArgs (top 17)) (defBody (top 17)) (defScope (top 17)) .none kV11 dc11 pm11 an11 cd11 ct11), sl11⟩)
    (c11 : PySem.W.codeIn K cd11 "is_fraction" = true)
    (k11 : PySem.W.keepIn K (.ref f11) = true)
    (a12 : PySem.W.nsIn K mainGlobals "is_share" = some (some (.ref f12)))
    (l12 : K.lookup f12 = some ⟨oc12, od12, .func (PySem.W.fnOf "is_share" "is_share" (defArgs (top 18)) (defBody (top 18)) (defScope (top 18)) .none kV12 dc12 pm12 an12 cd12 ct12), sl12⟩)
    (c12 : PySem.W.codeIn K cd12 "is_share" = true)
    (k12 : PySem.W.keepIn K (.ref f12) = true)
    (a13 : PySem.W.nsIn K mainGlobals "plus" = some (some (.ref f13)))
    (l13 : K.lookup f13 = some ⟨oc13, od13, .func (PySem.W.fnOf "plus" "plus" (defArgs (top 19)) (defBody (top 19)) (defScope (top 19)) .none kV13 dc13 pm13 an13 cd13 ct13), sl13⟩)
    (c13 : PySem.W.codeIn K cd13 "plus" = true)
    (k13 : PySem.W.keepIn K (.ref f13) = true)
    (a14 : PySem.W.nsIn K mainGlobals "minus" = some (some (.ref f14)))
    (l14 : K.lookup f14 = some ⟨oc14, od14, .func (PySem.W.fnOf "minus" "minus" (defArgs (top 20)) (defBody (top 20)) (defScope (top 20)) .none kV14 dc14 pm14 an14 cd14 ct14), sl14⟩)
    (c14 : PySem.W.codeIn K cd14 "minus" = true)
    (k14 : PySem.W.keepIn K (.ref f14) = true)
    (a15 : PySem.W.nsIn K mainGlobals "is_below" = some (some (.ref f15)))
    (l15 : K.lookup f15 = some ⟨oc15, od15, .func (PySem.W.fnOf "is_below" "is_below" (defArgs (top 21)) (defBody (top 21)) (defScope (top 21)) .none kV15 dc15 pm15 an15 cd15 ct15), sl15⟩)
    (c15 : PySem.W.codeIn K cd15 "is_below" = true)
    (k15 : PySem.W.keepIn K (.ref f15) = true)
    (a16 : PySem.W.nsIn K mainGlobals "total" = some (some (.ref f16)))
    (l16 : K.lookup f16 = some ⟨oc16, od16, .func (PySem.W.fnOf "total" "total" (defArgs (top 22)) (defBody (top 22)) (defScope (top 22)) .none kV16 dc16 pm16 an16 cd16 ct16), sl16⟩)
    (c16 : PySem.W.codeIn K cd16 "total" = true)
    (k16 : PySem.W.keepIn K (.ref f16) = true)
    (a17 : PySem.W.nsIn K mainGlobals "many_contents" = some (some (.ref f17)))
    (l17 : K.lookup f17 = some ⟨oc17, od17, .func (PySem.W.fnOf "many_contents" "many_contents" (defArgs (top 28)) (defBody (top 28)) (defScope (top 28)) .none kV17 dc17 pm17 an17 cd17 ct17), sl17⟩)
    (c17 : PySem.W.codeIn K cd17 "many_contents" = true)
    (k17 : PySem.W.keepIn K (.ref f17) = true)
    (a18 : PySem.W.nsIn K mainGlobals "are_sizes" = some (some (.ref f18)))
    (l18 : K.lookup f18 = some ⟨oc18, od18, .func (PySem.W.fnOf "are_sizes" "are_sizes" (defArgs (top 26)) (defBody (top 26)) (defScope (top 26)) .none kV18 dc18 pm18 an18 cd18 ct18), sl18⟩)
    (c18 : PySem.W.codeIn K cd18 "are_sizes" = true)
    (k18 : PySem.W.keepIn K (.ref f18) = true)
    (a19 : PySem.W.nsIn K mainGlobals "check_sizes" = some (some (.ref f19)))
    (l19 : K.lookup f19 = some ⟨oc19, od19, .func (PySem.W.fnOf "check_sizes" "check_sizes" (defArgs (top 27)) (defBody (top 27)) (defScope (top 27)) .none kV19 dc19 pm19 an19 cd19 ct19), sl19⟩)
    (c19 : PySem.W.codeIn K cd19 "check_sizes" = true)
    (k19 : PySem.W.keepIn K (.ref f19) = true)
    (a20 : PySem.W.nsIn K mainGlobals "raw_contents" = some (some (.ref f20)))
    (l20 : K.lookup f20 = some ⟨oc20, od20, .func (PySem.W.fnOf "raw_contents" "raw_contents" (defArgs (top 29)) (defBody (top 29)) (defScope (top 29)) .none kV20 dc20 pm20 an20 cd20 ct20), sl20⟩)
    (c20 : PySem.W.codeIn K cd20 "raw_contents" = true)
    (k20 : PySem.W.keepIn K (.ref f20) = true)
    (a21 : PySem.W.nsIn K mainGlobals "all_columns" = some (some (.ref f21)))
    (l21 : K.lookup f21 = some ⟨oc21, od21, .func (PySem.W.fnOf "all_columns" "all_columns" (defArgs (top 30)) (defBody (top 30)) (defScope (top 30)) .none kV21 dc21 pm21 an21 cd21 ct21), sl21⟩)
    (c21 : PySem.W.codeIn K cd21 "all_columns" = true)
    (k21 : PySem.W.keepIn K (.ref f21) = true)
    (a22 : PySem.W.nsIn K mainGlobals "is_pattern" = some (some (.ref f22)))
    (l22 : K.lookup f22 = some ⟨oc22, od22, .func (PySem.W.fnOf "is_pattern" "is_pattern" (defArgs (top 31)) (defBody (top 31)) (defScope (top 31)) .none kV22 dc22 pm22 an22 cd22 ct22), sl22⟩)
    (c22 : PySem.W.codeIn K cd22 "is_pattern" = true)
    (k22 : PySem.W.keepIn K (.ref f22) = true)
    (a23 : PySem.W.nsIn K mainGlobals "raw_box" = some (some (.ref f23)))
    (l23 : K.lookup f23 = some ⟨oc23, od23, .func (PySem.W.fnOf "raw_box" "raw_box" (defArgs (top 33)) (defBody (top 33)) (defScope (top 33)) .none kV23 dc23 pm23 an23 cd23 ct23), sl23⟩)
    (c23 : PySem.W.codeIn K cd23 "raw_box" = true)
    (k23 : PySem.W.keepIn K (.ref f23) = true)
    (a24 : PySem.W.nsIn K mainGlobals "is_in" = some (some (.ref f24)))
    (l24 : K.lookup f24 = some ⟨oc24, od24, .func (PySem.W.fnOf "is_in" "is_in" (defArgs (top 34)) (defBody (top 34)) (defScope (top 34)) .none kV24 dc24 pm24 an24 cd24 ct24), sl24⟩)
    (c24 : PySem.W.codeIn K cd24 "is_in" = true)
    (k24 : PySem.W.keepIn K (.ref f24) = true)
    (a25 : PySem.W.nsIn K mainGlobals "is_raw_box" = some (some (.ref f25)))
    (l25 : K.lookup f25 = some ⟨oc25, od25, .func (PySem.W.fnOf "is_raw_box" "is_raw_box" (defArgs (top 32)) (defBody (top 32)) (defScope (top 32)) .none kV25 dc25 pm25 an25 cd25 ct25), sl25⟩)
    (c25 : PySem.W.codeIn K cd25 "is_raw_box" = true)
    (k25 : PySem.W.keepIn K (.ref f25) = true)
    (a26 : PySem.W.nsIn K mainGlobals "_law_contents" = some (some (.ref f26)))
    (l26 : K.lookup f26 = some ⟨oc26, od26, .func (PySem.W.fnOf "_law_contents" "_law_contents" (defArgs (top 59)) (defBody (top 59)) (defScope (top 59)) .none kV26 dc26 pm26 an26 cd26 ct26), sl26⟩)
    (c26 : PySem.W.codeIn K cd26 "_law_contents" = true)
    (k26 : PySem.W.keepIn K (.ref f26) = true)
    (a27 : PySem.W.nsIn K mainGlobals "_law_box" = some (some (.ref f27)))
    (l27 : K.lookup f27 = some ⟨oc27, od27, .func (PySem.W.fnOf "_law_box" "_law_box" (defArgs (top 61)) (defBody (top 61)) (defScope (top 61)) .none kV27 dc27 pm27 an27 cd27 ct27), sl27⟩)
    (c27 : PySem.W.codeIn K cd27 "_law_box" = true)
    (k27 : PySem.W.keepIn K (.ref f27) = true)
    (a28 : PySem.W.nsIn K mainGlobals "_law_is_in" = some (some (.ref f28)))
    (l28 : K.lookup f28 = some ⟨oc28, od28, .func (PySem.W.fnOf "_law_is_in" "_law_is_in" (defArgs (top 62)) (defBody (top 62)) (defScope (top 62)) .none kV28 dc28 pm28 an28 cd28 ct28), sl28⟩)
    (c28 : PySem.W.codeIn K cd28 "_law_is_in" = true)
    (k28 : PySem.W.keepIn K (.ref f28) = true)
    (a29 : PySem.W.nsIn K mainGlobals "_law_low" = some (some (.ref f29)))
    (l29 : K.lookup f29 = some ⟨oc29, od29, .func (PySem.W.fnOf "_law_low" "_law_low" (defArgs (top 63)) (defBody (top 63)) (defScope (top 63)) .none kV29 dc29 pm29 an29 cd29 ct29), sl29⟩)
    (c29 : PySem.W.codeIn K cd29 "_law_low" = true)
    (k29 : PySem.W.keepIn K (.ref f29) = true)
    (a30 : PySem.W.nsIn K mainGlobals "_law_plus" = some (some (.ref f30)))
    (l30 : K.lookup f30 = some ⟨oc30, od30, .func (PySem.W.fnOf "_law_plus" "_law_plus" (defArgs (top 64)) (defBody (top 64)) (defScope (top 64)) .none kV30 dc30 pm30 an30 cd30 ct30), sl30⟩)
    (c30 : PySem.W.codeIn K cd30 "_law_plus" = true)
    (k30 : PySem.W.keepIn K (.ref f30) = true)
    (a31 : PySem.W.nsIn K mainGlobals "_law_sum" = some (some (.ref f31)))
    (l31 : K.lookup f31 = some ⟨oc31, od31, .func (PySem.W.fnOf "_law_sum" "_law_sum" (defArgs (top 65)) (defBody (top 65)) (defScope (top 65)) .none kV31 dc31 pm31 an31 cd31 ct31), sl31⟩)
    (c31 : PySem.W.codeIn K cd31 "_law_sum" = true)
    (k31 : PySem.W.keepIn K (.ref f31) = true)
    (a32 : PySem.W.nsIn K mainGlobals "_law_patterns" = some (some (.ref f32)))
    (l32 : K.lookup f32 = some ⟨oc32, od32, .func (PySem.W.fnOf "_law_patterns" "_law_patterns" (defArgs (top 60)) (defBody (top 60)) (defScope (top 60)) .none kV32 dc32 pm32 an32 cd32 ct32), sl32⟩)
    (c32 : PySem.W.codeIn K cd32 "_law_patterns" = true)
    (k32 : PySem.W.keepIn K (.ref f32) = true)
    (a33 : PySem.W.nsIn K mainGlobals "is_habit_row" = some (some (.ref f33)))
    (l33 : K.lookup f33 = some ⟨oc33, od33, .func (PySem.W.fnOf "is_habit_row" "is_habit_row" (defArgs (top 36)) (defBody (top 36)) (defScope (top 36)) .none kV33 dc33 pm33 an33 cd33 ct33), sl33⟩)
    (c33 : PySem.W.codeIn K cd33 "is_habit_row" = true)
    (k33 : PySem.W.keepIn K (.ref f33) = true)
    (a34 : PySem.W.nsIn K mainGlobals "row_from" = some (some (.ref f34)))
    (l34 : K.lookup f34 = some ⟨oc34, od34, .func (PySem.W.fnOf "row_from" "row_from" (defArgs (top 39)) (defBody (top 39)) (defScope (top 39)) .none kV34 dc34 pm34 an34 cd34 ct34), sl34⟩)
    (c34 : PySem.W.codeIn K cd34 "row_from" = true)
    (k34 : PySem.W.keepIn K (.ref f34) = true)
    (a35 : PySem.W.nsIn K mainGlobals "are_shares" = some (some (.ref f35)))
    (l35 : K.lookup f35 = some ⟨oc35, od35, .func (PySem.W.fnOf "are_shares" "are_shares" (defArgs (top 50)) (defBody (top 50)) (defScope (top 50)) .none kV35 dc35 pm35 an35 cd35 ct35), sl35⟩)
    (c35 : PySem.W.codeIn K cd35 "are_shares" = true)
    (k35 : PySem.W.keepIn K (.ref f35) = true)
    (a36 : PySem.W.nsIn K mainGlobals "shown_by_shares" = some (some (.ref f36)))
    (l36 : K.lookup f36 = some ⟨oc36, od36, .func (PySem.W.fnOf "shown_by_shares" "shown_by_shares" (defArgs (top 51)) (defBody (top 51)) (defScope (top 51)) .none kV36 dc36 pm36 an36 cd36 ct36), sl36⟩)
    (c36 : PySem.W.codeIn K cd36 "shown_by_shares" = true)
    (k36 : PySem.W.keepIn K (.ref f36) = true)
    (a37 : PySem.W.nsIn K mainGlobals "habit_from" = some (some (.ref f37)))
    (l37 : K.lookup f37 = some ⟨oc37, od37, .func (PySem.W.fnOf "habit_from" "habit_from" (defArgs (top 40)) (defBody (top 40)) (defScope (top 40)) .none kV37 dc37 pm37 an37 cd37 ct37), sl37⟩)
    (c37 : PySem.W.codeIn K cd37 "habit_from" = true)
    (k37 : PySem.W.keepIn K (.ref f37) = true)
    (a38 : PySem.W.nsIn K mainGlobals "raw_habit_of" = some (some (.ref f38)))
    (l38 : K.lookup f38 = some ⟨oc38, od38, .func (PySem.W.fnOf "raw_habit_of" "raw_habit_of" (defArgs (top 52)) (defBody (top 52)) (defScope (top 52)) .none kV38 dc38 pm38 an38 cd38 ct38), sl38⟩)
    (c38 : PySem.W.codeIn K cd38 "raw_habit_of" = true)
    (k38 : PySem.W.keepIn K (.ref f38) = true)
    (a39 : PySem.W.nsIn K mainGlobals "habit_of" = some (some (.ref f39)))
    (l39 : K.lookup f39 = some ⟨oc39, od39, .func (PySem.W.fnOf "habit_of" "habit_of" (defArgs (top 53)) (defBody (top 53)) (defScope (top 53)) .none kV39 dc39 pm39 an39 cd39 ct39), sl39⟩)
    (c39 : PySem.W.codeIn K cd39 "habit_of" = true)
    (k39 : PySem.W.keepIn K (.ref f39) = true)
    (a40 : PySem.W.nsIn K mainGlobals "raw_share" = some (some (.ref f40)))
    (l40 : K.lookup f40 = some ⟨oc40, od40, .func (PySem.W.fnOf "raw_share" "raw_share" (defArgs (top 41)) (defBody (top 41)) (defScope (top 41)) .none kV40 dc40 pm40 an40 cd40 ct40), sl40⟩)
    (c40 : PySem.W.codeIn K cd40 "raw_share" = true)
    (k40 : PySem.W.keepIn K (.ref f40) = true)
    (a41 : PySem.W.nsIn K mainGlobals "raw_patterns" = some (some (.ref f41)))
    (l41 : K.lookup f41 = some ⟨oc41, od41, .func (PySem.W.fnOf "raw_patterns" "raw_patterns" (defArgs (top 42)) (defBody (top 42)) (defScope (top 42)) .none kV41 dc41 pm41 an41 cd41 ct41), sl41⟩)
    (c41 : PySem.W.codeIn K cd41 "raw_patterns" = true)
    (k41 : PySem.W.keepIn K (.ref f41) = true)
    (a42 : PySem.W.nsIn K mainGlobals "unlike_pair" = some (some (.ref f42)))
    (l42 : K.lookup f42 = some ⟨oc42, od42, .func (PySem.W.fnOf "unlike_pair" "unlike_pair" (defArgs (top 43)) (defBody (top 43)) (defScope (top 43)) .none kV42 dc42 pm42 an42 cd42 ct42), sl42⟩)
    (c42 : PySem.W.codeIn K cd42 "unlike_pair" = true)
    (k42 : PySem.W.keepIn K (.ref f42) = true)
    (a43 : PySem.W.nsIn K mainGlobals "raw_unfair" = some (some (.ref f43)))
    (l43 : K.lookup f43 = some ⟨oc43, od43, .func (PySem.W.fnOf "raw_unfair" "raw_unfair" (defArgs (top 44)) (defBody (top 44)) (defScope (top 44)) .none kV43 dc43 pm43 an43 cd43 ct43), sl43⟩)
    (c43 : PySem.W.codeIn K cd43 "raw_unfair" = true)
    (k43 : PySem.W.keepIn K (.ref f43) = true)
    (a44 : PySem.W.nsIn K mainGlobals "unfair" = some (some (.ref f44)))
    (l44 : K.lookup f44 = some ⟨oc44, od44, .func (PySem.W.fnOf "unfair" "unfair" (defArgs (top 45)) (defBody (top 45)) (defScope (top 45)) .none kV44 dc44 pm44 an44 cd44 ct44), sl44⟩)
    (c44 : PySem.W.codeIn K cd44 "unfair" = true)
    (k44 : PySem.W.keepIn K (.ref f44) = true)
    (a45 : PySem.W.nsIn K mainGlobals "is_fair" = some (some (.ref f45)))
    (l45 : K.lookup f45 = some ⟨oc45, od45, .func (PySem.W.fnOf "is_fair" "is_fair" (defArgs (top 46)) (defBody (top 46)) (defScope (top 46)) .none kV45 dc45 pm45 an45 cd45 ct45), sl45⟩)
    (c45 : PySem.W.codeIn K cd45 "is_fair" = true)
    (k45 : PySem.W.keepIn K (.ref f45) = true)
    (a46 : PySem.W.nsIn K mainGlobals "check_fair" = some (some (.ref f46)))
    (l46 : K.lookup f46 = some ⟨oc46, od46, .func (PySem.W.fnOf "check_fair" "check_fair" (defArgs (top 47)) (defBody (top 47)) (defScope (top 47)) .none kV46 dc46 pm46 an46 cd46 ct46), sl46⟩)
    (c46 : PySem.W.codeIn K cd46 "check_fair" = true)
    (k46 : PySem.W.keepIn K (.ref f46) = true)
    (a47 : PySem.W.nsIn K mainGlobals "raw_box_shares" = some (some (.ref f47)))
    (l47 : K.lookup f47 = some ⟨oc47, od47, .func (PySem.W.fnOf "raw_box_shares" "raw_box_shares" (defArgs (top 48)) (defBody (top 48)) (defScope (top 48)) .none kV47 dc47 pm47 an47 cd47 ct47), sl47⟩)
    (c47 : PySem.W.codeIn K cd47 "raw_box_shares" = true)
    (k47 : PySem.W.keepIn K (.ref f47) = true)
    (a48 : PySem.W.nsIn K mainGlobals "box_shares" = some (some (.ref f48)))
    (l48 : K.lookup f48 = some ⟨oc48, od48, .func (PySem.W.fnOf "box_shares" "box_shares" (defArgs (top 49)) (defBody (top 49)) (defScope (top 49)) .none kV48 dc48 pm48 an48 cd48 ct48), sl48⟩)
    (c48 : PySem.W.codeIn K cd48 "box_shares" = true)
    (k48 : PySem.W.keepIn K (.ref f48) = true)
    (a49 : PySem.W.nsIn K mainGlobals "_law_draw" = some (some (.ref f49)))
    (l49 : K.lookup f49 = some ⟨oc49, od49, .func (PySem.W.fnOf "_law_draw" "_law_draw" (defArgs (top 56)) (defBody (top 56)) (defScope (top 56)) .none kV49 dc49 pm49 an49 cd49 ct49), sl49⟩)
    (c49 : PySem.W.codeIn K cd49 "_law_draw" = true)
    (k49 : PySem.W.keepIn K (.ref f49) = true)
    (a50 : PySem.W.nsIn K mainGlobals "_law_hand" = some (some (.ref f50)))
    (l50 : K.lookup f50 = some ⟨oc50, od50, .func (PySem.W.fnOf "_law_hand" "_law_hand" (defArgs (top 55)) (defBody (top 55)) (defScope (top 55)) .none kV50 dc50 pm50 an50 cd50 ct50), sl50⟩)
    (c50 : PySem.W.codeIn K cd50 "_law_hand" = true)
    (k50 : PySem.W.keepIn K (.ref f50) = true)
    (a51 : PySem.W.nsIn K mainGlobals "_law_some" = some (some (.ref f51)))
    (l51 : K.lookup f51 = some ⟨oc51, od51, .func (PySem.W.fnOf "_law_some" "_law_some" (defArgs (top 57)) (defBody (top 57)) (defScope (top 57)) .none kV51 dc51 pm51 an51 cd51 ct51), sl51⟩)
    (c51 : PySem.W.codeIn K cd51 "_law_some" = true)
    (k51 : PySem.W.keepIn K (.ref f51) = true)
    (a52 : PySem.W.nsIn K mainGlobals "_law_sizes" = some (some (.ref f52)))
    (l52 : K.lookup f52 = some ⟨oc52, od52, .func (PySem.W.fnOf "_law_sizes" "_law_sizes" (defArgs (top 58)) (defBody (top 58)) (defScope (top 58)) .none kV52 dc52 pm52 an52 cd52 ct52), sl52⟩)
    (c52 : PySem.W.codeIn K cd52 "_law_sizes" = true)
    (k52 : PySem.W.keepIn K (.ref f52) = true)
    (a53 : PySem.W.nsIn K mainGlobals "_law_row_of" = some (some (.ref f53)))
    (l53 : K.lookup f53 = some ⟨oc53, od53, .func (PySem.W.fnOf "_law_row_of" "_law_row_of" (defArgs (top 67)) (defBody (top 67)) (defScope (top 67)) .none kV53 dc53 pm53 an53 cd53 ct53), sl53⟩)
    (c53 : PySem.W.codeIn K cd53 "_law_row_of" = true)
    (k53 : PySem.W.keepIn K (.ref f53) = true)
    (a54 : PySem.W.nsIn K mainGlobals "_law_shares" = some (some (.ref f54)))
    (l54 : K.lookup f54 = some ⟨oc54, od54, .func (PySem.W.fnOf "_law_shares" "_law_shares" (defArgs (top 66)) (defBody (top 66)) (defScope (top 66)) .none kV54 dc54 pm54 an54 cd54 ct54), sl54⟩)
    (c54 : PySem.W.codeIn K cd54 "_law_shares" = true)
    (k54 : PySem.W.keepIn K (.ref f54) = true)
    (a55 : PySem.W.nsIn K mainGlobals "law" = some (some (.ref f55)))
    (l55 : K.lookup f55 = some ⟨oc55, od55, .func (PySem.W.fnOf "law" "law" (defArgs (top 68)) (defBody (top 68)) (defScope (top 68)) .none kV55 dc55 pm55 an55 cd55 ct55), sl55⟩)
    (c55 : PySem.W.codeIn K cd55 "law" = true)
    (k55 : PySem.W.keepIn K (.ref f55) = true)
    (pgCH : PySem.W.plainGet K CH Str.empty = true)
    (hdCH : PySem.W.hasDictIn K CH = true)
    (poCH : PySem.W.plainOver K CH = true)
    (saCH : PySem.W.findIn K (.ref CH) "__setattr__" = some (some (.builtin "object.__setattr__")))
    (mkCH : PySem.W.makesIn K CH = true)
    (kcCH : PySem.W.keepIn K (.ref CH) = true)
    (sNCH : PySem.W.findIn K (.ref CH) "sizes" = some none)
    (rNCH : PySem.W.findIn K (.ref CH) "rows" = some none)
    (kNCH : PySem.W.findIn K (.ref CH) "kept" = some none)
    (caCH : PySem.W.findIn K (.ref CH) "__class__" = some (some (.builtin "object.__class__")))
    (mrCH : PySem.W.mroIn K CH (.type "object") = some true)
    (nfCH : PySem.W.notFirst K CR (.ref CH) = true)
    (isCH : PySem.W.kitOne K (.ref CH) (.ref CH) = some true)
    (pgCR : PySem.W.plainGet K CR Str.empty = true)
    (hdCR : PySem.W.hasDictIn K CR = true)
    (poCR : PySem.W.plainOver K CR = true)
    (saCR : PySem.W.findIn K (.ref CR) "__setattr__" = some (some (.builtin "object.__setattr__")))
    (mkCR : PySem.W.makesIn K CR = true)
    (kcCR : PySem.W.keepIn K (.ref CR) = true)
    (sNCR : PySem.W.findIn K (.ref CR) "sizes" = some none)
    (rNCR : PySem.W.findIn K (.ref CR) "rows" = some none)
    (kNCR : PySem.W.findIn K (.ref CR) "kept" = some none)
    (caCR : PySem.W.findIn K (.ref CR) "__class__" = some (some (.builtin "object.__class__")))
    (mrCR : PySem.W.mroIn K CR (.type "object") = some true)
    (nfCR : PySem.W.notFirst K CR (.ref CR) = true)
    (isCR : PySem.W.kitOne K (.ref CR) (.ref CH) = some true)
    (kR : PySem.W.findIn K (.ref CR) "keep" = some (some (.ref fK)))
    (neR : PySem.W.findIn K (.ref CR) "__ne__" = some (some (.builtin "object.__ne__")))
    (eqR : PySem.W.findIn K (.ref CR) "__eq__" = some (some (.ref fE)))
    (gs : PySem.W.specialIn K (.builtin "object.__class__") "__get__" = some (some (.builtin "getset_descriptor.__get__")))
    (tk : PySem.W.takesIn K (.builtin "object.__class__") = some true)
    (z_isinstance : PySem.W.nsIn K mainGlobals "isinstance" = some none)
    (z_int : PySem.W.nsIn K mainGlobals "int" = some none)
    (z_bool : PySem.W.nsIn K mainGlobals "bool" = some none)
    (z_tuple : PySem.W.nsIn K mainGlobals "tuple" = some none)
    (z_len : PySem.W.nsIn K mainGlobals "len" = some none)
    (z_all : PySem.W.nsIn K mainGlobals "all" = some none)
    (z_abs : PySem.W.nsIn K mainGlobals "abs" = some none)
    (z_range : PySem.W.nsIn K mainGlobals "range" = some none)
    (z_dict : PySem.W.nsIn K mainGlobals "dict" = some none)
    (z_zip : PySem.W.nsIn K mainGlobals "zip" = some none)
    (z_enumerate : PySem.W.nsIn K mainGlobals "enumerate" = some none)
    (z_list : PySem.W.nsIn K mainGlobals "list" = some none)
    (z_sorted : PySem.W.nsIn K mainGlobals "sorted" = some none)
    (z_set : PySem.W.nsIn K mainGlobals "set" = some none)
    (gaN : PySem.W.nsIn K mainGlobals "NOTHING" = some (some (.ref aN)))
    (laN : K.lookup aN = some ⟨.type "tuple", odaN, .seq #[.int 0 taN, .int 1 uaN] naN, slaN⟩)
    (gaO : PySem.W.nsIn K mainGlobals "ONE" = some (some (.ref aO)))
    (laO : K.lookup aO = some ⟨.type "tuple", odaO, .seq #[.int 1 taO, .int 1 uaO] naO, slaO⟩)
    (gC : PySem.W.nsIn K mainGlobals "MOST_COLUMNS" = some (some (.int 5 tC)))
    (gM : PySem.W.nsIn K mainGlobals "MOST_CONTENTS" = some (some (.int 256 tM))) :
    ∃ fd : FuncData, (∀ (s : Shared) (v : Value), BindsTo s fd ⟨[v], []⟩ [("_law_script", v)]) ∧ ∀ base : Heap, K.In base → base.Ns mainGlobals mg → FnOk l.prog w K mg base CX0 8 fa fd ["_law_script"] (spLaw K) := by
  have e := hfa.symm.trans (PySem.W.mg_of X G a55)
  cases e
  have T : Txt K mg aN aO tC tM := ⟨PySem.W.mg_none_of X G z_isinstance, PySem.W.mg_none_of X G z_int, PySem.W.mg_none_of X G z_bool, PySem.W.mg_none_of X G z_tuple, PySem.W.mg_none_of X G z_len, PySem.W.mg_none_of X G z_all, PySem.W.mg_none_of X G z_abs, PySem.W.mg_none_of X G z_range, PySem.W.mg_none_of X G z_dict, PySem.W.mg_none_of X G z_zip, PySem.W.mg_none_of X G z_enumerate, PySem.W.mg_none_of X G z_list, PySem.W.mg_none_of X G z_sorted, PySem.W.mg_none_of X G z_set, PySem.W.mg_of X G gaN, PySem.W.mg_of X G gaO, fun H => tv_two laN, fun H => tv_two laO, PySem.W.mg_of X G gC, PySem.W.mg_of X G gM⟩
  have C : TxC K mg CH CR fK fI fR fE := ⟨⟨pgCH, hdCH, poCH, saCH⟩, ⟨pgCR, hdCR, poCR, saCR⟩, sNCH, rNCH, kNCH, sNCR, rNCR, kNCR, ⟨a1, i1, k1⟩, ⟨kR, i1, k1⟩, ⟨mkCH, a3, i3, kcCH⟩, ⟨mkCR, a2, i2, kcCR⟩, PySem.W.mg_of X G aCH, PySem.W.mg_of X G aCR, ⟨neR, mrCR, eqR, i4⟩, nfCH, nfCR, caCH, caCR, gs, tk, mrCH, mrCR, isCH, isCR⟩
  have F1 := fun_mk (st := inClass (top 37) 1) l1 c1 k1
  have D_keep : Md K "keep" "Habit.keep" (inClass (top 37) 1) fK ["self", "sizes", "rows"] := ⟨_, F1, F1.binds (ps := ["self", "sizes", "rows"]) fun _ _ _ _ _ _ us hl => match us, hl with | [_, _, _], _ => rfl⟩
  have F2 := fun_mk (st := inClass (top 38) 0) l2 c2 k2
  have D_RawHabit_init : Md K "__init__" "RawHabit.__init__" (inClass (top 38) 0) fR ["self", "sizes", "rows"] := ⟨_, F2, F2.binds (ps := ["self", "sizes", "rows"]) fun _ _ _ _ _ _ us hl => match us, hl with | [_, _, _], _ => rfl⟩
  have F3 := fun_mk (st := inClass (top 37) 0) l3 c3 k3
  have D_Habit_init : Md K "__init__" "Habit.__init__" (inClass (top 37) 0) fI ["self", "sizes", "rows"] := ⟨_, F3, F3.binds (ps := ["self", "sizes", "rows"]) fun _ _ _ _ _ _ us hl => match us, hl with | [_, _, _], _ => rfl⟩
  have F4 := fun_mk (st := inClass (top 37) 2) l4 c4 k4
  have D_Habit_eq : Md K "__eq__" "Habit.__eq__" (inClass (top 37) 2) fE ["self", "other"] := ⟨_, F4, F4.binds (ps := ["self", "other"]) fun _ _ _ _ _ _ us hl => match us, hl with | [_, _], _ => rfl⟩
  have F5 := fun_mk (st := top 8) l5 c5 k5
  have D_is_integer : Df K mg "is_integer" "is_integer" (top 8) ["thing"] := ⟨f5, _, F5, PySem.W.mg_of X G a5, k5, F5.binds (ps := ["thing"]) fun _ _ _ _ _ _ us hl => match us, hl with | [_], _ => rfl⟩
  have F6 := fun_mk (st := top 9) l6 c6 k6
  have D_is_within : Df K mg "is_within" "is_within" (top 9) ["thing", "least", "most"] := ⟨f6, _, F6, PySem.W.mg_of X G a6, k6, F6.binds (ps := ["thing", "least", "most"]) fun _ _ _ _ _ _ us hl => match us, hl with | [_, _, _], _ => rfl⟩
  have F7 := fun_mk (st := top 10) l7 c7 k7
  have D_is_pair : Df K mg "is_pair" "is_pair" (top 10) ["thing"] := ⟨f7, _, F7, PySem.W.mg_of X G a7, k7, F7.binds (ps := ["thing"]) fun _ _ _ _ _ _ us hl => match us, hl with | [_], _ => rfl⟩
  have F8 := fun_mk (st := top 11) l8 c8 k8
  have D_are_ascending : Df K mg "are_ascending" "are_ascending" (top 11) ["things"] := ⟨f8, _, F8, PySem.W.mg_of X G a8, k8, F8.binds (ps := ["things"]) fun _ _ _ _ _ _ us hl => match us, hl with | [_], _ => rfl⟩
  have F9 := fun_mk (st := top 15) l9 c9 k9
  have D_common_divisor : Df K mg "common_divisor" "common_divisor" (top 15) ["one", "other"] := ⟨f9, _, F9, PySem.W.mg_of X G a9, k9, F9.binds (ps := ["one", "other"]) fun _ _ _ _ _ _ us hl => match us, hl with | [_, _], _ => rfl⟩
  have F10 := fun_mk (st := top 16) l10 c10 k10
  have D_made : Df K mg "made" "made" (top 16) ["top", "bottom"] := ⟨f10, _, F10, PySem.W.mg_of X G a10, k10, F10.binds (ps := ["top", "bottom"]) fun _ _ _ _ _ _ us hl => match us, hl with | [_, _], _ => rfl⟩
  have F11 := fun_mk (st := top 17) l11 c11 k11
  have D_is_fraction : Df K mg "is_fraction" "is_fraction" (top 17) ["thing"] := ⟨f11, _, F11, PySem.W.mg_of X G a11, k11, F11.binds (ps := ["thing"]) fun _ _ _ _ _ _ us hl => match us, hl with | [_], _ => rfl⟩
  have F12 := fun_mk (st := top 18) l12 c12 k12
  have D_is_share : Df K mg "is_share" "is_share" (top 18) ["thing"] := ⟨f12, _, F12, PySem.W.mg_of X G a12, k12, F12.binds (ps := ["thing"]) fun _ _ _ _ _ _ us hl => match us, hl with | [_], _ => rfl⟩
  have F13 := fun_mk (st := top 19) l13 c13 k13
  have D_plus : Df K mg "plus" "plus" (top 19) ["one", "other"] := ⟨f13, _, F13, PySem.W.mg_of X G a13, k13, F13.binds (ps := ["one", "other"]) fun _ _ _ _ _ _ us hl => match us, hl with | [_, _], _ => rfl⟩
  have F14 := fun_mk (st := top 20) l14 c14 k14
  have D_minus : Df K mg "minus" "minus" (top 20) ["one", "other"] := ⟨f14, _, F14, PySem.W.mg_of X G a14, k14, F14.binds (ps := ["one", "other"]) fun _ _ _ _ _ _ us hl => match us, hl with | [_, _], _ => rfl⟩
  have F15 := fun_mk (st := top 21) l15 c15 k15
  have D_is_below : Df K mg "is_below" "is_below" (top 21) ["one", "other"] := ⟨f15, _, F15, PySem.W.mg_of X G a15, k15, F15.binds (ps := ["one", "other"]) fun _ _ _ _ _ _ us hl => match us, hl with | [_, _], _ => rfl⟩
  have F16 := fun_mk (st := top 22) l16 c16 k16
  have D_total : Df K mg "total" "total" (top 22) ["row"] := ⟨f16, _, F16, PySem.W.mg_of X G a16, k16, F16.binds (ps := ["row"]) fun _ _ _ _ _ _ us hl => match us, hl with | [_], _ => rfl⟩
  have F17 := fun_mk (st := top 28) l17 c17 k17
  have D_many_contents : Df K mg "many_contents" "many_contents" (top 28) ["sizes"] := ⟨f17, _, F17, PySem.W.mg_of X G a17, k17, F17.binds (ps := ["sizes"]) fun _ _ _ _ _ _ us hl => match us, hl with | [_], _ => rfl⟩
  have F18 := fun_mk (st := top 26) l18 c18 k18
  have D_are_sizes : Df K mg "are_sizes" "are_sizes" (top 26) ["thing"] := ⟨f18, _, F18, PySem.W.mg_of X G a18, k18, F18.binds (ps := ["thing"]) fun _ _ _ _ _ _ us hl => match us, hl with | [_], _ => rfl⟩
  have F19 := fun_mk (st := top 27) l19 c19 k19
  have D_check_sizes : Df K mg "check_sizes" "check_sizes" (top 27) ["thing"] := ⟨f19, _, F19, PySem.W.mg_of X G a19, k19, F19.binds (ps := ["thing"]) fun _ _ _ _ _ _ us hl => match us, hl with | [_], _ => rfl⟩
  have F20 := fun_mk (st := top 29) l20 c20 k20
  have D_raw_contents : Df K mg "raw_contents" "raw_contents" (top 29) ["sizes"] := ⟨f20, _, F20, PySem.W.mg_of X G a20, k20, F20.binds (ps := ["sizes"]) fun _ _ _ _ _ _ us hl => match us, hl with | [_], _ => rfl⟩
  have F21 := fun_mk (st := top 30) l21 c21 k21
  have D_all_columns : Df K mg "all_columns" "all_columns" (top 30) ["columns"] := ⟨f21, _, F21, PySem.W.mg_of X G a21, k21, F21.binds (ps := ["columns"]) fun _ _ _ _ _ _ us hl => match us, hl with | [_], _ => rfl⟩
  have F22 := fun_mk (st := top 31) l22 c22 k22
  have D_is_pattern : Df K mg "is_pattern" "is_pattern" (top 31) ["columns", "thing"] := ⟨f22, _, F22, PySem.W.mg_of X G a22, k22, F22.binds (ps := ["columns", "thing"]) fun _ _ _ _ _ _ us hl => match us, hl with | [_, _], _ => rfl⟩
  have F23 := fun_mk (st := top 33) l23 c23 k23
  have D_raw_box : Df K mg "raw_box" "raw_box" (top 33) ["pattern", "content"] := ⟨f23, _, F23, PySem.W.mg_of X G a23, k23, F23.binds (ps := ["pattern", "content"]) fun _ _ _ _ _ _ us hl => match us, hl with | [_, _], _ => rfl⟩
  have F24 := fun_mk (st := top 34) l24 c24 k24
  have D_is_in : Df K mg "is_in" "is_in" (top 34) ["box", "content"] := ⟨f24, _, F24, PySem.W.mg_of X G a24, k24, F24.binds (ps := ["box", "content"]) fun _ _ _ _ _ _ us hl => match us, hl with | [_, _], _ => rfl⟩
  have F25 := fun_mk (st := top 32) l25 c25 k25
  have D_is_raw_box : Df K mg "is_raw_box" "is_raw_box" (top 32) ["sizes", "thing"] := ⟨f25, _, F25, PySem.W.mg_of X G a25, k25, F25.binds (ps := ["sizes", "thing"]) fun _ _ _ _ _ _ us hl => match us, hl with | [_, _], _ => rfl⟩
  have F26 := fun_mk (st := top 59) l26 c26 k26
  have D__law_contents : Df K mg "_law_contents" "_law_contents" (top 59) ["_law_sizes_here"] := ⟨f26, _, F26, PySem.W.mg_of X G a26, k26, F26.binds (ps := ["_law_sizes_here"]) fun _ _ _ _ _ _ us hl => match us, hl with | [_], _ => rfl⟩
  have F27 := fun_mk (st := top 61) l27 c27 k27
  have D__law_box : Df K mg "_law_box" "_law_box" (top 61) ["_law_pattern", "_law_content"] := ⟨f27, _, F27, PySem.W.mg_of X G a27, k27, F27.binds (ps := ["_law_pattern", "_law_content"]) fun _ _ _ _ _ _ us hl => match us, hl with | [_, _], _ => rfl⟩
  have F28 := fun_mk (st := top 62) l28 c28 k28
  have D__law_is_in : Df K mg "_law_is_in" "_law_is_in" (top 62) ["_law_box_here", "_law_content"] := ⟨f28, _, F28, PySem.W.mg_of X G a28, k28, F28.binds (ps := ["_law_box_here", "_law_content"]) fun _ _ _ _ _ _ us hl => match us, hl with | [_, _], _ => rfl⟩
  have F29 := fun_mk (st := top 63) l29 c29 k29
  have D__law_low : Df K mg "_law_low" "_law_low" (top 63) ["_law_top", "_law_bottom"] := ⟨f29, _, F29, PySem.W.mg_of X G a29, k29, F29.binds (ps := ["_law_top", "_law_bottom"]) fun _ _ _ _ _ _ us hl => match us, hl with | [_, _], _ => rfl⟩
  have F30 := fun_mk (st := top 64) l30 c30 k30
  have D__law_plus : Df K mg "_law_plus" "_law_plus" (top 64) ["_law_one", "_law_other"] := ⟨f30, _, F30, PySem.W.mg_of X G a30, k30, F30.binds (ps := ["_law_one", "_law_other"]) fun _ _ _ _ _ _ us hl => match us, hl with | [_, _], _ => rfl⟩
  have F31 := fun_mk (st := top 65) l31 c31 k31
  have D__law_sum : Df K mg "_law_sum" "_law_sum" (top 65) ["_law_row"] := ⟨f31, _, F31, PySem.W.mg_of X G a31, k31, F31.binds (ps := ["_law_row"]) fun _ _ _ _ _ _ us hl => match us, hl with | [_], _ => rfl⟩
  have F32 := fun_mk (st := top 60) l32 c32 k32
  have D__law_patterns : Df K mg "_law_patterns" "_law_patterns" (top 60) ["_law_columns"] := ⟨f32, _, F32, PySem.W.mg_of X G a32, k32, F32.binds (ps := ["_law_columns"]) fun _ _ _ _ _ _ us hl => match us, hl with | [_], _ => rfl⟩
  have F33 := fun_mk (st := top 36) l33 c33 k33
  have D_is_habit_row : Df K mg "is_habit_row" "is_habit_row" (top 36) ["columns", "thing"] := ⟨f33, _, F33, PySem.W.mg_of X G a33, k33, F33.binds (ps := ["columns", "thing"]) fun _ _ _ _ _ _ us hl => match us, hl with | [_, _], _ => rfl⟩
  have F34 := fun_mk (st := top 39) l34 c34 k34
  have D_row_from : Df K mg "row_from" "row_from" (top 39) ["shares"] := ⟨f34, _, F34, PySem.W.mg_of X G a34, k34, F34.binds (ps := ["shares"]) fun _ _ _ _ _ _ us hl => match us, hl with | [_], _ => rfl⟩
  have F35 := fun_mk (st := top 50) l35 c35 k35
  have D_are_shares : Df K mg "are_shares" "are_shares" (top 50) ["sizes", "thing"] := ⟨f35, _, F35, PySem.W.mg_of X G a35, k35, F35.binds (ps := ["sizes", "thing"]) fun _ _ _ _ _ _ us hl => match us, hl with | [_, _], _ => rfl⟩
  have F36 := fun_mk (st := top 51) l36 c36 k36
  have D_shown_by_shares : Df K mg "shown_by_shares" "shown_by_shares" (top 51) ["sizes", "shares", "content"] := ⟨f36, _, F36, PySem.W.mg_of X G a36, k36, F36.binds (ps := ["sizes", "shares", "content"]) fun _ _ _ _ _ _ us hl => match us, hl with | [_, _, _], _ => rfl⟩
  have F37 := fun_mk (st := top 40) l37 c37 k37
  have D_habit_from : Df K mg "habit_from" "habit_from" (top 40) ["sizes", "shown"] := ⟨f37, _, F37, PySem.W.mg_of X G a37, k37, F37.binds (ps := ["sizes", "shown"]) fun _ _ _ _ _ _ us hl => match us, hl with | [_, _], _ => rfl⟩
  have F38 := fun_mk (st := top 52) l38 c38 k38
  have D_raw_habit_of : Df K mg "raw_habit_of" "raw_habit_of" (top 52) ["sizes", "shares"] := ⟨f38, _, F38, PySem.W.mg_of X G a38, k38, F38.binds (ps := ["sizes", "shares"]) fun _ _ _ _ _ _ us hl => match us, hl with | [_, _], _ => rfl⟩
  have F39 := fun_mk (st := top 53) l39 c39 k39
  have D_habit_of : Df K mg "habit_of" "habit_of" (top 53) ["sizes", "shares"] := ⟨f39, _, F39, PySem.W.mg_of X G a39, k39, F39.binds (ps := ["sizes", "shares"]) fun _ _ _ _ _ _ us hl => match us, hl with | [_, _], _ => rfl⟩
  have F40 := fun_mk (st := top 41) l40 c40 k40
  have D_raw_share : Df K mg "raw_share" "raw_share" (top 41) ["habit", "pattern", "content"] := ⟨f40, _, F40, PySem.W.mg_of X G a40, k40, F40.binds (ps := ["habit", "pattern", "content"]) fun _ _ _ _ _ _ us hl => match us, hl with | [_, _, _], _ => rfl⟩
  have F41 := fun_mk (st := top 42) l41 c41 k41
  have D_raw_patterns : Df K mg "raw_patterns" "raw_patterns" (top 42) ["habit"] := ⟨f41, _, F41, PySem.W.mg_of X G a41, k41, F41.binds (ps := ["habit"]) fun _ _ _ _ _ _ us hl => match us, hl with | [_], _ => rfl⟩
  have F42 := fun_mk (st := top 43) l42 c42 k42
  have D_unlike_pair : Df K mg "unlike_pair" "unlike_pair" (top 43) ["habit", "pattern"] := ⟨f42, _, F42, PySem.W.mg_of X G a42, k42, F42.binds (ps := ["habit", "pattern"]) fun _ _ _ _ _ _ us hl => match us, hl with | [_, _], _ => rfl⟩
  have F43 := fun_mk (st := top 44) l43 c43 k43
  have D_raw_unfair : Df K mg "raw_unfair" "raw_unfair" (top 44) ["habit"] := ⟨f43, _, F43, PySem.W.mg_of X G a43, k43, F43.binds (ps := ["habit"]) fun _ _ _ _ _ _ us hl => match us, hl with | [_], _ => rfl⟩
  have F44 := fun_mk (st := top 45) l44 c44 k44
  have D_unfair : Df K mg "unfair" "unfair" (top 45) ["habit"] := ⟨f44, _, F44, PySem.W.mg_of X G a44, k44, F44.binds (ps := ["habit"]) fun _ _ _ _ _ _ us hl => match us, hl with | [_], _ => rfl⟩
  have F45 := fun_mk (st := top 46) l45 c45 k45
  have D_is_fair : Df K mg "is_fair" "is_fair" (top 46) ["habit"] := ⟨f45, _, F45, PySem.W.mg_of X G a45, k45, F45.binds (ps := ["habit"]) fun _ _ _ _ _ _ us hl => match us, hl with | [_], _ => rfl⟩
  have F46 := fun_mk (st := top 47) l46 c46 k46
  have D_check_fair : Df K mg "check_fair" "check_fair" (top 47) ["habit"] := ⟨f46, _, F46, PySem.W.mg_of X G a46, k46, F46.binds (ps := ["habit"]) fun _ _ _ _ _ _ us hl => match us, hl with | [_], _ => rfl⟩
  have F47 := fun_mk (st := top 48) l47 c47 k47
  have D_raw_box_shares : Df K mg "raw_box_shares" "raw_box_shares" (top 48) ["habit"] := ⟨f47, _, F47, PySem.W.mg_of X G a47, k47, F47.binds (ps := ["habit"]) fun _ _ _ _ _ _ us hl => match us, hl with | [_], _ => rfl⟩
  have F48 := fun_mk (st := top 49) l48 c48 k48
  have D_box_shares : Df K mg "box_shares" "box_shares" (top 49) ["habit"] := ⟨f48, _, F48, PySem.W.mg_of X G a48, k48, F48.binds (ps := ["habit"]) fun _ _ _ _ _ _ us hl => match us, hl with | [_], _ => rfl⟩
  have F49 := fun_mk (st := top 56) l49 c49 k49
  have D__law_draw : Df K mg "_law_draw" "_law_draw" (top 56) ["_law_hand_here", "_law_many"] := ⟨f49, _, F49, PySem.W.mg_of X G a49, k49, F49.binds (ps := ["_law_hand_here", "_law_many"]) fun _ _ _ _ _ _ us hl => match us, hl with | [_, _], _ => rfl⟩
  have F50 := fun_mk (st := top 55) l50 c50 k50
  have D__law_hand : Df K mg "_law_hand" "_law_hand" (top 55) ["_law_script"] := ⟨f50, _, F50, PySem.W.mg_of X G a50, k50, F50.binds (ps := ["_law_script"]) fun _ _ _ _ _ _ us hl => match us, hl with | [_], _ => rfl⟩
  have F51 := fun_mk (st := top 57) l51 c51 k51
  have D__law_some : Df K mg "_law_some" "_law_some" (top 57) ["_law_hand_here", "_law_things"] := ⟨f51, _, F51, PySem.W.mg_of X G a51, k51, F51.binds (ps := ["_law_hand_here", "_law_things"]) fun _ _ _ _ _ _ us hl => match us, hl with | [_, _], _ => rfl⟩
  have F52 := fun_mk (st := top 58) l52 c52 k52
  have D__law_sizes : Df K mg "_law_sizes" "_law_sizes" (top 58) ["_law_hand_here"] := ⟨f52, _, F52, PySem.W.mg_of X G a52, k52, F52.binds (ps := ["_law_hand_here"]) fun _ _ _ _ _ _ us hl => match us, hl with | [_], _ => rfl⟩
  have F53 := fun_mk (st := top 67) l53 c53 k53
  have D__law_row_of : Df K mg "_law_row_of" "_law_row_of" (top 67) ["_law_sizes_here", "_law_shares_here", "_law_content"] := ⟨f53, _, F53, PySem.W.mg_of X G a53, k53, F53.binds (ps := ["_law_sizes_here", "_law_shares_here", "_law_content"]) fun _ _ _ _ _ _ us hl => match us, hl with | [_, _, _], _ => rfl⟩
  have F54 := fun_mk (st := top 66) l54 c54 k54
  have D__law_shares : Df K mg "_law_shares" "_law_shares" (top 66) ["_law_hand_here", "_law_sizes_here"] := ⟨f54, _, F54, PySem.W.mg_of X G a54, k54, F54.binds (ps := ["_law_hand_here", "_law_sizes_here"]) fun _ _ _ _ _ _ us hl => match us, hl with | [_, _], _ => rfl⟩
  have F55 := fun_mk (st := top 68) l55 c55 k55
  refine ⟨PySem.W.fnOf "law" "law" (defArgs (top 68)) (defBody (top 68)) (defScope (top 68)) .none kV55 dc55 pm55 an55 cd55 ct55, fun s v => .of_eq rfl, fun base _ _ => ?_⟩
  have G_is_integer := fn_is_integer (P := l.prog) (w := w) (mg := mg) (base := base) (D := D_is_integer) (T := T)
  have G_is_within := fn_is_within (P := l.prog) (w := w) (mg := mg) (base := base) (D := D_is_within) (T := T) (G_is_integer := G_is_integer)
  have G_is_pair := fn_is_pair (P := l.prog) (w := w) (mg := mg) (base := base) (D := D_is_pair) (T := T)
  have G_are_ascending := fn_are_ascending (P := l.prog) (w := w) (mg := mg) (base := base) (D := D_are_ascending) (T := T)
  have G_common_divisor := fn_common_divisor (P := l.prog) (w := w) (mg := mg) (base := base) (D := D_common_divisor) (T := T)
  have G_made := fn_made (P := l.prog) (w := w) (mg := mg) (base := base) (D := D_made) (T := T) (G_common_divisor := G_common_divisor)
  have G_is_fraction := fn_is_fraction (P := l.prog) (w := w) (mg := mg) (base := base) (D := D_is_fraction) (T := T) (G_is_pair := G_is_pair) (G_is_integer := G_is_integer) (G_common_divisor := G_common_divisor)
  have G_is_share := fn_is_share (P := l.prog) (w := w) (mg := mg) (base := base) (D := D_is_share) (T := T) (G_is_fraction := G_is_fraction)
  have G_plus := fn_plus (P := l.prog) (w := w) (mg := mg) (base := base) (D := D_plus) (T := T) (G_made := G_made)
  have G_minus := fn_minus (P := l.prog) (w := w) (mg := mg) (base := base) (D := D_minus) (T := T) (G_plus := G_plus)
  have G_is_below := fn_is_below (P := l.prog) (w := w) (mg := mg) (base := base) (D := D_is_below) (T := T)
  have G_total := fn_total (P := l.prog) (w := w) (mg := mg) (base := base) (D := D_total) (T := T) (G_plus := G_plus)
  have G_many_contents := fn_many_contents (P := l.prog) (w := w) (mg := mg) (base := base) (D := D_many_contents) (T := T)
  have G_are_sizes := fn_are_sizes (P := l.prog) (w := w) (mg := mg) (base := base) (D := D_are_sizes) (T := T) (G_is_within := G_is_within) (G_many_contents := G_many_contents)
  have G_check_sizes := fn_check_sizes (P := l.prog) (w := w) (mg := mg) (base := base) (D := D_check_sizes) (T := T) (G_are_sizes := G_are_sizes)
  have G_raw_contents := fn_raw_contents (P := l.prog) (w := w) (mg := mg) (base := base) (D := D_raw_contents) (T := T)
  have G_all_columns := fn_all_columns (P := l.prog) (w := w) (mg := mg) (base := base) (D := D_all_columns) (T := T)
  have G_is_pattern := fn_is_pattern (P := l.prog) (w := w) (mg := mg) (base := base) (D := D_is_pattern) (T := T) (G_is_within := G_is_within) (G_are_ascending := G_are_ascending)
  have G_raw_box := fn_raw_box (P := l.prog) (w := w) (mg := mg) (base := base) (D := D_raw_box) (T := T)
  have G_is_in := fn_is_in (P := l.prog) (w := w) (mg := mg) (base := base) (D := D_is_in) (T := T) (G_raw_box := G_raw_box)
  have G_is_raw_box := fn_is_raw_box (P := l.prog) (w := w) (mg := mg) (base := base) (D := D_is_raw_box) (T := T) (G_is_pair := G_is_pair) (G_is_pattern := G_is_pattern) (G_is_within := G_is_within)
  have G__law_contents := fn__law_contents (P := l.prog) (w := w) (mg := mg) (base := base) (D := D__law_contents) (T := T)
  have G__law_box := fn__law_box (P := l.prog) (w := w) (mg := mg) (base := base) (D := D__law_box) (T := T)
  have G__law_is_in := fn__law_is_in (P := l.prog) (w := w) (mg := mg) (base := base) (D := D__law_is_in) (T := T) (G__law_box := G__law_box)
  have G__law_low := fn__law_low (P := l.prog) (w := w) (mg := mg) (base := base) (D := D__law_low) (T := T)
  have G__law_plus := fn__law_plus (P := l.prog) (w := w) (mg := mg) (base := base) (D := D__law_plus) (T := T) (G__law_low := G__law_low)
  have G__law_sum := fn__law_sum (P := l.prog) (w := w) (mg := mg) (base := base) (D := D__law_sum) (T := T) (G__law_plus := G__law_plus)
  have G__law_patterns := fn__law_patterns (P := l.prog) (w := w) (mg := mg) (base := base) (D := D__law_patterns) (T := T)
  have G_is_habit_row := fn_is_habit_row (P := l.prog) (w := w) (mg := mg) (base := base) (D := D_is_habit_row) (T := T) (G_is_pair := G_is_pair) (G_is_pattern := G_is_pattern) (G_is_share := G_is_share) (G_total := G_total)
  have G_row_from := fn_row_from (P := l.prog) (w := w) (mg := mg) (base := base) (D := D_row_from) (T := T)
  have G_are_shares := fn_are_shares (P := l.prog) (w := w) (mg := mg) (base := base) (D := D_are_shares) (T := T) (G_is_raw_box := G_is_raw_box) (G_all_columns := G_all_columns) (G_is_share := G_is_share)
  have G_shown_by_shares := fn_shown_by_shares (P := l.prog) (w := w) (mg := mg) (base := base) (D := D_shown_by_shares) (T := T) (G_is_in := G_is_in) (G_total := G_total) (G_is_below := G_is_below) (G_all_columns := G_all_columns) (G_minus := G_minus)
  have G_keep := mp_keep (P := l.prog) (w := w) (mg := mg) (base := base) (D := D_keep) (T := T) (C := C) (G_raw_contents := G_raw_contents)
  have G_RawHabit_init := mp_raw (P := l.prog) (w := w) (mg := mg) (base := base) (D := D_RawHabit_init) (T := T) (C := C) (G_keep := G_keep)
  have G_Habit_init := mp_init (P := l.prog) (w := w) (mg := mg) (base := base) (D := D_Habit_init) (T := T) (C := C) (G_keep := G_keep) (G_are_sizes := G_are_sizes) (G_many_contents := G_many_contents) (G_is_habit_row := G_is_habit_row)
  have G_Habit_eq := mp_eq (P := l.prog) (w := w) (mg := mg) (base := base) (D := D_Habit_eq) (T := T) (C := C)
  have G_habit_from := fn_habit_from (P := l.prog) (w := w) (mg := mg) (base := base) (D := D_habit_from) (T := T) (C := C) (G_RawHabit_init := G_RawHabit_init) (G_row_from := G_row_from) (G_raw_contents := G_raw_contents)
  have G_raw_habit_of := fn_raw_habit_of (P := l.prog) (w := w) (mg := mg) (base := base) (D := D_raw_habit_of) (T := T) (G_habit_from := G_habit_from) (G_shown_by_shares := G_shown_by_shares) (G_raw_contents := G_raw_contents)
  have G_habit_of := fn_habit_of (P := l.prog) (w := w) (mg := mg) (base := base) (D := D_habit_of) (T := T) (G_check_sizes := G_check_sizes) (G_are_shares := G_are_shares) (G_raw_habit_of := G_raw_habit_of)
  have G_raw_share := fn_raw_share (P := l.prog) (w := w) (mg := mg) (base := base) (D := D_raw_share) (T := T) (C := C)
  have G_raw_patterns := fn_raw_patterns (P := l.prog) (w := w) (mg := mg) (base := base) (D := D_raw_patterns) (T := T) (C := C) (G_all_columns := G_all_columns)
  have G_unlike_pair := fn_unlike_pair (P := l.prog) (w := w) (mg := mg) (base := base) (D := D_unlike_pair) (T := T) (C := C) (G_raw_contents := G_raw_contents) (G_raw_box := G_raw_box) (G_raw_share := G_raw_share)
  have G_raw_unfair := fn_raw_unfair (P := l.prog) (w := w) (mg := mg) (base := base) (D := D_raw_unfair) (T := T) (G_raw_patterns := G_raw_patterns) (G_unlike_pair := G_unlike_pair)
  have G_unfair := fn_unfair (P := l.prog) (w := w) (mg := mg) (base := base) (D := D_unfair) (T := T) (G_raw_unfair := G_raw_unfair)
  have G_is_fair := fn_is_fair (P := l.prog) (w := w) (mg := mg) (base := base) (D := D_is_fair) (T := T) (G_raw_unfair := G_raw_unfair)
  have G_check_fair := fn_check_fair (P := l.prog) (w := w) (mg := mg) (base := base) (D := D_check_fair) (T := T) (G_raw_unfair := G_raw_unfair)
  have G_raw_box_shares := fn_raw_box_shares (P := l.prog) (w := w) (mg := mg) (base := base) (D := D_raw_box_shares) (T := T) (C := C) (G_all_columns := G_all_columns) (G_raw_contents := G_raw_contents) (G_raw_box := G_raw_box)
  have G_box_shares := fn_box_shares (P := l.prog) (w := w) (mg := mg) (base := base) (D := D_box_shares) (T := T) (G_check_fair := G_check_fair) (G_raw_box_shares := G_raw_box_shares)
  have G__law_draw := fn__law_draw (P := l.prog) (w := w) (mg := mg) (base := base) (D := D__law_draw) (T := T)
  have G__law_hand := fn__law_hand (P := l.prog) (w := w) (mg := mg) (base := base) (D := D__law_hand) (T := T)
  have G__law_some := fn__law_some (P := l.prog) (w := w) (mg := mg) (base := base) (D := D__law_some) (T := T) (G__law_draw := G__law_draw)
  have G__law_sizes := fn__law_sizes (P := l.prog) (w := w) (mg := mg) (base := base) (D := D__law_sizes) (T := T) (G__law_draw := G__law_draw) (G__law_some := G__law_some)
  have G__law_row_of := fn__law_row_of (P := l.prog) (w := w) (mg := mg) (base := base) (D := D__law_row_of) (T := T) (G__law_is_in := G__law_is_in) (G__law_sum := G__law_sum) (G__law_low := G__law_low)
  have G__law_shares := fn__law_shares (P := l.prog) (w := w) (mg := mg) (base := base) (D := D__law_shares) (T := T) (G__law_patterns := G__law_patterns) (G__law_draw := G__law_draw) (G__law_some := G__law_some) (G__law_contents := G__law_contents) (G__law_box := G__law_box) (G__law_low := G__law_low)
  exact ok_law (F := F55) (T := T) (C := C) (G__law_hand := G__law_hand) (G__law_sizes := G__law_sizes) (G__law_shares := G__law_shares) (G_habit_of := G_habit_of) (G__law_contents := G__law_contents) (G__law_row_of := G__law_row_of) (G_Habit_init := G_Habit_init) (G_Habit_eq := G_Habit_eq) (G_is_fair := G_is_fair) (G_unfair := G_unfair) (G_box_shares := G_box_shares)
end FM
open PySem PySem.W PyProof.Rows
set_option maxRecDepth 100000 in
set_option maxHeartbeats 0 in
theorem PySem.Challenge.cw_fairmasks_k06_whole_fair_habits_by_share_holds : PySem.Challenge.rw_fairmasks_k06_whole_fair_habits_by_share.Holds := by
  w_on; o_law; k_head; (case hw => w_witness2)
  k_fill
  refine L2.walk_of (l := PySem.Challenge.rw_fairmasks_k06_whole_fair_habits_by_share) (n := 63) (k := 8) (x := "_law_script") (CX := fun _ => L2.CX0) (sp := fun w => FM.spLaw _) rfl (by decide) rfl ⟨rfl, by decide, by decide⟩ (fun w h Y => PySem.W.kIn_of Y) ?F (fun _ _ a ns hl _ hS => ⟨a, ns, rfl, hS, hl, fun _ => rfl⟩) (fun _ _ _ _ _ h => h)
  case F =>
    intro w mg fa h KX G hmg
    refine' FM.all_mk KX G hmg ?aCH ?aCR ?a1 ?i1 ?l1 ?c1 ?k1 ?a2 ?i2 ?l2 ?c2 ?k2 ?a3 ?i3 ?l3 ?c3 ?k3 ?a4 ?i4 ?l4 ?c4 ?k4 ?a5 ?l5 ?c5 ?k5 ?a6 ?l6 ?c6 ?k6 ?a7 ?l7 ?c7 ?k7 ?a8 ?l8 ?c8 ?k8 ?a9 ?l9 ?c9 ?k9 ?a10 ?l10 ?c10 ?k10 ?a11 ?l11 ?c11 ?k11 ?a12 ?l12 ?c12 ?k12 ?a13 ?l13 ?c13 ?k13 ?a14 ?l14 ?c14 ?k14 ?a15 ?l15 ?c15 ?k15 ?a16 ?l16 ?c16 ?k16 ?a17 ?l17 ?c17 ?k17 ?a18 ?l18 ?c18 ?k18 ?a19 ?l19 ?c19 ?k19 ?a20 ?l20 ?c20 ?k20 ?a21 ?l21 ?c21 ?k21 ?a22 ?l22 ?c22 ?k22 ?a23 ?l23 ?c23 ?k23 ?a24 ?l24 ?c24 ?k24 ?a25 ?l25 ?c25 ?k25 ?a26 ?l26 ?c26 ?k26 ?a27 ?l27 ?c27 ?k27 ?a28 ?l28 ?c28 ?k28 ?a29 ?l29 ?c29 ?k29 ?a30 ?l30 ?c30 ?k30 ?a31 ?l31 ?c31 ?k31 ?a32 ?l32 ?c32 ?k32 ?a33 ?l33 ?c33 ?k33 ?a34 ?l34 ?c34 ?k34 ?a35 ?l35 ?c35 ?k35 ?a36 ?l36 ?c36 ?k36 ?a37 ?l37 ?c37 ?k37 ?a38 ?l38 ?c38 ?k38 ?a39 ?l39 ?c39 ?k39 ?a40 ?l40 ?c40 ?k40 ?a41 ?l41 ?c41 ?k41 ?a42 ?l42 ?c42 ?k42 ?a43 ?l43 ?c43 ?k43 ?a44 ?l44 ?c44 ?k44 ?a45 ?l45 ?c45 ?k45 ?a46 ?l46 ?c46 ?k46 ?a47 ?l47 ?c47 ?k47 ?a48 ?l48 ?c48 ?k48 ?a49 ?l49 ?c49 ?k49 ?a50 ?l50 ?c50 ?k50 ?a51 ?l51 ?c51 ?k51 ?a52 ?l52 ?c52 ?k52 ?a53 ?l53 ?c53 ?k53 ?a54 ?l54 ?c54 ?k54 ?a55 ?l55 ?c55 ?k55 ?pgCH ?hdCH ?poCH ?saCH ?mkCH ?kcCH ?sNCH ?rNCH ?kNCH ?caCH ?mrCH ?nfCH ?isCH ?pgCR ?hdCR ?poCR ?saCR ?mkCR ?kcCR ?sNCR ?rNCR ?kNCR ?caCR ?mrCR ?nfCR ?isCR ?kR ?neR ?eqR ?gs ?tk ?z_isinstance ?z_int ?z_bool ?z_tuple ?z_len ?z_all ?z_abs ?z_range ?z_dict ?z_zip ?z_enumerate ?z_list ?z_sorted ?z_set ?gaN ?laN ?gaO ?laO ?gC ?gM
    (case aCH => k_is); (case aCR => k_is); (case a1 => k_is); (case i1 => k_is); (case l1 => k_is); (case c1 => k_is)
    (case k1 => k_is); (case a2 => k_is); (case i2 => k_is); (case l2 => k_is); (case c2 => k_is); (case k2 => k_is)
    (case a3 => k_is); (case i3 => k_is); (case l3 => k_is); (case c3 => k_is); (case k3 => k_is); (case a4 => k_is)
    (case i4 => k_is); (case l4 => k_is); (case c4 => k_is); (case k4 => k_is); (case a5 => k_is); (case l5 => k_is)
    (case c5 => k_is); (case k5 => k_is); (case a6 => k_is); (case l6 => k_is); (case c6 => k_is); (case k6 => k_is)
    (case a7 => k_is); (case l7 => k_is); (case c7 => k_is); (case k7 => k_is); (case a8 => k_is); (case l8 => k_is)
    (case c8 => k_is); (case k8 => k_is); (case a9 => k_is); (case l9 => k_is); (case c9 => k_is); (case k9 => k_is)
    (case a10 => k_is); (case l10 => k_is); (case c10 => k_is); (case k10 => k_is); (case a11 => k_is); (case l11 => k_is)
    (case c11 => k_is); (case k11 => k_is); (case a12 => k_is); (case l12 => k_is); (case c12 => k_is); (case k12 => k_is)
    (case a13 => k_is); (case l13 => k_is); (case c13 => k_is); (case k13 => k_is); (case a14 => k_is); (case l14 => k_is)
    (case c14 => k_is); (case k14 => k_is); (case a15 => k_is); (case l15 => k_is); (case c15 => k_is); (case k15 => k_is)
    (case a16 => k_is); (case l16 => k_is); (case c16 => k_is); (case k16 => k_is); (case a17 => k_is); (case l17 => k_is)
    (case c17 => k_is); (case k17 => k_is); (case a18 => k_is); (case l18 => k_is); (case c18 => k_is); (case k18 => k_is)
    (case a19 => k_is); (case l19 => k_is); (case c19 => k_is); (case k19 => k_is); (case a20 => k_is); (case l20 => k_is)
    (case c20 => k_is); (case k20 => k_is); (case a21 => k_is); (case l21 => k_is); (case c21 => k_is); (case k21 => k_is)
    (case a22 => k_is); (case l22 => k_is); (case c22 => k_is); (case k22 => k_is); (case a23 => k_is); (case l23 => k_is)
    (case c23 => k_is); (case k23 => k_is); (case a24 => k_is); (case l24 => k_is); (case c24 => k_is); (case k24 => k_is)
    (case a25 => k_is); (case l25 => k_is); (case c25 => k_is); (case k25 => k_is); (case a26 => k_is); (case l26 => k_is)
    (case c26 => k_is); (case k26 => k_is); (case a27 => k_is); (case l27 => k_is); (case c27 => k_is); (case k27 => k_is)
    (case a28 => k_is); (case l28 => k_is); (case c28 => k_is); (case k28 => k_is); (case a29 => k_is); (case l29 => k_is)
    (case c29 => k_is); (case k29 => k_is); (case a30 => k_is); (case l30 => k_is); (case c30 => k_is); (case k30 => k_is)
    (case a31 => k_is); (case l31 => k_is); (case c31 => k_is); (case k31 => k_is); (case a32 => k_is); (case l32 => k_is)
    (case c32 => k_is); (case k32 => k_is); (case a33 => k_is); (case l33 => k_is); (case c33 => k_is); (case k33 => k_is)
    (case a34 => k_is); (case l34 => k_is); (case c34 => k_is); (case k34 => k_is); (case a35 => k_is); (case l35 => k_is)
    (case c35 => k_is); (case k35 => k_is); (case a36 => k_is); (case l36 => k_is); (case c36 => k_is); (case k36 => k_is)
    (case a37 => k_is); (case l37 => k_is); (case c37 => k_is); (case k37 => k_is); (case a38 => k_is); (case l38 => k_is)
    (case c38 => k_is); (case k38 => k_is); (case a39 => k_is); (case l39 => k_is); (case c39 => k_is); (case k39 => k_is)
    (case a40 => k_is); (case l40 => k_is); (case c40 => k_is); (case k40 => k_is); (case a41 => k_is); (case l41 => k_is)
    (case c41 => k_is); (case k41 => k_is); (case a42 => k_is); (case l42 => k_is); (case c42 => k_is); (case k42 => k_is)
    (case a43 => k_is); (case l43 => k_is); (case c43 => k_is); (case k43 => k_is); (case a44 => k_is); (case l44 => k_is)
    (case c44 => k_is); (case k44 => k_is); (case a45 => k_is); (case l45 => k_is); (case c45 => k_is); (case k45 => k_is)
    (case a46 => k_is); (case l46 => k_is); (case c46 => k_is); (case k46 => k_is); (case a47 => k_is); (case l47 => k_is)
    (case c47 => k_is); (case k47 => k_is); (case a48 => k_is); (case l48 => k_is); (case c48 => k_is); (case k48 => k_is)
    (case a49 => k_is); (case l49 => k_is); (case c49 => k_is); (case k49 => k_is); (case a50 => k_is); (case l50 => k_is)
    (case c50 => k_is); (case k50 => k_is); (case a51 => k_is); (case l51 => k_is); (case c51 => k_is); (case k51 => k_is)
    (case a52 => k_is); (case l52 => k_is); (case c52 => k_is); (case k52 => k_is); (case a53 => k_is); (case l53 => k_is)
    (case c53 => k_is); (case k53 => k_is); (case a54 => k_is); (case l54 => k_is); (case c54 => k_is); (case k54 => k_is)
    (case a55 => k_is); (case l55 => k_is); (case c55 => k_is); (case k55 => k_is); (case pgCH => k_is); (case hdCH => k_is)
    (case poCH => k_is); (case saCH => k_is); (case mkCH => k_is); (case kcCH => k_is); (case sNCH => k_is); (case rNCH => k_is)
    (case kNCH => k_is); (case caCH => k_is); (case mrCH => k_is); (case nfCH => k_is); (case isCH => kit_is); (case pgCR => k_is)
    (case hdCR => k_is); (case poCR => k_is); (case saCR => k_is); (case mkCR => k_is); (case kcCR => k_is); (case sNCR => k_is)
    (case rNCR => k_is); (case kNCR => k_is); (case caCR => k_is); (case mrCR => k_is); (case nfCR => k_is); (case isCR => kit_is)
    (case kR => k_is); (case neR => k_is); (case eqR => k_is); (case gs => k_is); (case tk => k_is); (case z_isinstance => k_is)
    (case z_int => k_is); (case z_bool => k_is); (case z_tuple => k_is); (case z_len => k_is); (case z_all => k_is); (case z_abs => k_is)
    (case z_range => k_is); (case z_dict => k_is); (case z_zip => k_is); (case z_enumerate => k_is); (case z_list => k_is); (case z_sorted => k_is)
    (case z_set => k_is); (case gaN => k_is); (case laN => k_is); (case gaO => k_is); (case laO => k_is); (case gC => k_is)
    (case gM => k_is)
